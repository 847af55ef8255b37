import PyProof.Rows.All
import Wide.All
import OpenK.AllK
import Wide.FinOn
import HandS.ForMost
import HandS.ForExc
import HandS.Flow
import HandS.IsInst
import HandS.Deep
import HandS.TupAny
import HandS.Replace
import HandS.ExcIs
import HandS.ExcField
import HandS.ExcInit
import HandS.Walk
import HandS.Wide
import HandS.Codes
import HandS.Zip
import HandS.Dict
import HandS.Small
import HandS.More
import HandS.HeadHook3
import HandS.Defaults
import HandS.Head0
import HandS.Head1
import HandS.Head2
import HandS.HeadEnd
import HandS.HeadHook1
import HandS.HeadHook2
import PySem.Challenge.RW_turnsame_k73_requests
set_option Elab.async false
set_option linter.all false
set_option maxRecDepth 100000
set_option maxHeartbeats 4000000
/-! Q3a: values, store, syntax and what it tells (no program, no heap). -/
namespace Q3
open PySem PySem.Spec PyProof.Rows L2

abbrev Lm : Nat := 16777216
/-- a value: trees of tuples over scalars, and places of the store -/
inductive D where
  | non | bl (b : Bool) | int (i : Int) | str (x : Str) | tup (xs : List D) | ref (n : Nat)
/-- what stands at a place of the store -/
inductive O where
  | lst (xs : List D) | fls (xs : List D) | dK (kvs : List (Key × D)) | dT (kvs : List (List Key × D)) | ins (c : Nat) (fs : List (Str × D))
def O.mu : O → Bool
  | .fls _ => false
  | _ => true
abbrev Sto := List O
abbrev En := List (Option D)
abbrev KD := D → Sto → Prop
/-- an exception: its class by number, its fields -/
abbrev KX := Nat → List (Str × D) → Sto → Prop

inductive Op where | add | sub | mul | fdiv | mod | pow
inductive Cm where | lt | le | gt | ge | eq | ne | isin | notin | isn | isnt
/-- built-in functions and types, called -/
inductive Bf where | len | int | str | min2 | max2 | list | tuple | all | any | sum
/-- methods of built-in types -/
inductive Mt where | append | join | split | starts | index | pop | extend | reverse | get
inductive Ty where | int | str | bool | tuple | list | dict | own (c : Nat)
/-- targets -/
inductive Tg where | nm (i : Nat) | tp (is : List Nat)

mutual
inductive E where
  | var (i : Nat) | int (i : Int) | str (x : Str) | bl (b : Bool) | non | glob (k : Nat)
  | bin (o : Op) (a b : E) | neg (a : E)
  | cmp (o : Cm) (a b : E) | chain (o p : Cm) (a b c : E)
  | and (a b : E) | or (a b : E) | not (a : E) | ite (c : T) (a b : E)
  | ix (a i : E) | sl (a lo hi : E) | no
  | tup (es : Es) | lst (es : Es) | dct (ks : List Key) (vs : Es) | dc0 | dcT | kget (k : Nat) (e : E) | kix (k : Nat) (e : E) | kin (neg : Bool) (k : Nat) (e : E)
  | call (f : Nat) (es : Es) | bf (b : Bf) (es : Es) | isi (e : E) (ts : List Ty) | exf (f : Str) | isx (ts : List Nat) | mt (m : Mt) (o : E) (es : Es)
  | comp (elt : E) (g : Tg) (it : I) (c : T)
inductive Es where
  | nil | cons (e : E) (es : Es)
inductive T where
  | yes | val (e : E) | and (a b : T) | or (a b : T) | not (a : T) | ite (c a b : T)
inductive I where
  | seq (e : E) | rng1 (a : E) | rng2 (a b : E) | enum (e : E) | zip (a b : E) | rev (e : E)
end

mutual
inductive S where
  | rais (c : Nat) (es : Es) | tryx (b : Ss) (cs : List Nat) (i : Option Nat) (h : Ss) | ex (e : E) | asg (g : Tg) (e : E) | six (o i v : E) | iff (c : T) (a b : Ss) | for (g : Tg) (it : I) (b : Ss) | wh (c : T) (b : Ss) | ret (e : E) | pass | brk | cont | stop
inductive Ss where
  | nil | cons (s : S) (r : Ss)
end

/-! ### pure things -/
def lstAt (st : Sto) (a : Nat) : Option (List D) := match st[a]? with
  | some (.lst xs) => some xs
  | some (.fls xs) => some xs
  | _ => none
def seqOf (st : Sto) : D → Option (List D)
  | .tup xs => some xs
  | .ref a => lstAt st a
  | _ => none
def tru (st : Sto) : D → Option Bool
  | .non => some false
  | .bl b => some b
  | .int i => some (i != 0)
  | .str x => some ((x.length : Int) != 0)
  | .tup xs => some (!xs.isEmpty)
  | .ref a => (lstAt st a).map fun xs => !xs.isEmpty
/-! dicts -/
section
variable {κ : Type} [DecidableEq κ]
def dGet (kvs : List (κ × D)) (k : κ) : Option D := (kvs.find? fun kv => decide (kv.1 = k)).map (·.2)
def dPut (kvs : List (κ × D)) (k : κ) (v : D) : List (κ × D) :=
  if (kvs.any fun kv => decide (kv.1 = k)) = true then kvs.map (fun kv => if kv.1 = k then (kv.1, v) else kv) else kvs ++ [(k, v)]
end
def keyOf : D → Option Key
  | .int i => some (.inl i)
  | .str x => some (.inr x)
  | _ => none
def keysOf : List D → Option (List Key)
  | [] => some []
  | d :: ds => match keyOf d, keysOf ds with
    | some k, some ks => some (k :: ks)
    | _, _ => none
/-- a look-up: none where the thing is no dict, or the key none of its kind -/
def dicGet (st : Sto) (x y : D) : Option (Option D) := match x with
  | .ref a => match st[a]? with
    | some (.dK kvs) => (keyOf y).map (dGet kvs)
    | _ => none
  | _ => none
/-- a dict with one more entry -/
def dicPut (o : O) (y v : D) : Option O := match o with
  | .dK kvs => if kvs.length < 16777216 then (keyOf y).map fun k => .dK (dPut kvs k v) else none
  | _ => none
/-- o[y] = z -/
def putAt (st : Sto) (a : Nat) (y z : D) : Option Sto := match st[a]? with
  | some (.lst xs) => match y with
    | .int k => (ixN xs.length k).map fun j => st.set a (.lst (xs.set j z))
    | _ => none
  | some o => (dicPut o y z).map fun o' => st.set a o'
  | none => none
def dicLen (st : Sto) : D → Option Nat
  | .ref a => match st[a]? with
    | some (.dK kvs) => some kvs.length
    | _ => none
  | _ => none
/-- plain data, with fuel -/
def toP : Nat → Sto → D → Option PyData
  | 0, _, _ => none
  | n + 1, st, d => match d with
    | .non => some .none
    | .bl b => some (.bool b)
    | .int i => some (.int i)
    | .str x => some (.str x)
    | .tup xs => (xs.mapM (toP n st)).map .tuple
    | .ref a => match lstAt st a with
      | some xs => (xs.mapM (toP n st)).map .list
      | none => none
abbrev fuelP : Nat := 66

/-- what must hold, told as a truth -/
def Mu (b : Bool) (P : Prop) : Prop := match b with
  | true => P
  | false => False
theorem mu_and {b : Bool} {P : Prop} (h : Mu b P) : b = true ∧ P := by
  cases b with
  | true => exact ⟨rfl, h⟩
  | false => exact False.elim h
theorem mu_mk {b : Bool} {P : Prop} (h : b = true) (p : P) : Mu b P := by subst h; exact p
def shortL : Nat → List D → Bool
  | _, [] => true
  | 0, _ :: _ => false
  | n + 1, _ :: r => shortL n r
theorem shortL_le : ∀ {n : Nat} {xs : List D}, shortL n xs = true → xs.length ≤ n
  | _, [], _ => Nat.zero_le _
  | 0, _ :: _, h => absurd h Bool.false_ne_true
  | n + 1, _ :: r, h => Nat.succ_le_succ (shortL_le (n := n) (xs := r) h)
def dvOk (j : Int) : Bool := decide (0 < j) && (decide (j < 1073741824) || decide (j.natAbs.log2 < 9000))
theorem dvOk_ok {i j : Int} (h : dvOk j = true) : CDiv i j ∨ CDivW i j := by
  unfold dvOk at h
  rw [Bool.and_eq_true, Bool.or_eq_true, decide_eq_true_eq, decide_eq_true_eq, decide_eq_true_eq] at h
  rcases h.2 with q | q
  · exact .inl ⟨h.1, q⟩
  · exact .inr ⟨h.1, q⟩
theorem dvOk_mk {j : Int} (h0 : 0 < j) (h1 : j < 1073741824) : dvOk j = true := by
  unfold dvOk
  rw [decide_eq_true h0, decide_eq_true h1]; rfl
def powOk (i j : Int) : Bool := decide (0 ≤ j) && (decide (j ≤ 1000000) && decide (i.natAbs < 18446744073709551616))
theorem powOk_ok {i j : Int} (h : powOk i j = true) : CPow i j := by
  unfold powOk at h
  rw [Bool.and_eq_true, Bool.and_eq_true, decide_eq_true_eq, decide_eq_true_eq, decide_eq_true_eq] at h
  exact ⟨h.1, h.2.1, h.2.2⟩
def dec62 (i : Int) : Bool := decide (-4611686018427387904 ≤ i) && decide (i < 4611686018427387904)
theorem dec62_mk {i : Int} (h0 : -4611686018427387904 ≤ i) (h1 : i < 4611686018427387904) : dec62 i = true := by
  unfold dec62
  rw [decide_eq_true h0, decide_eq_true h1]; rfl
/-! ### operators, by values -/
def wAdd (x y : D) (st : Sto) (Q : KD) : Prop := match x, y with
  | .int i, .int j => Q (.int (i + j)) st
  | .str a, .str b => a.length + b.length ≤ Lm ∧ Q (.str (a ++ b)) st
  | .tup a, .tup b => a.length + b.length ≤ Lm ∧ Q (.tup (a ++ b)) st
  | .ref a, .ref b => match st[a]?, st[b]? with
    | some (.lst xs), some (.lst ys) => xs.length + ys.length ≤ Lm ∧ Q (.ref st.length) (st ++ [.lst (xs ++ ys)])
    | _, _ => False
  | _, _ => False
def wBin (o : Op) (x y : D) (st : Sto) (Q : KD) : Prop := match o, x, y with
  | .add, x, y => wAdd x y st Q
  | .sub, .int i, .int j => Q (.int (i - j)) st
  | .mul, .int i, .int j => (CMul i j ∨ CMulW i j) ∧ Q (.int (i * j)) st
  | .mul, .ref a, .int k => match st[a]? with
    | some (.lst xs) => (-(2 ^ 63) ≤ k ∧ k < 2 ^ 63 ∧ xs.length * k.toNat ≤ Lm) ∧ Q (.ref st.length) (st ++ [.lst (List.replicate k.toNat xs).flatten])
    | _ => False
  | .fdiv, .int i, .int j => Mu (dvOk j) (Q (.int (i / j)) st)
  | .mod, .int i, .int j => Mu (decide (0 < j)) (Q (.int (i % j)) st)
  | .pow, .int i, .int j => Mu (powOk i j) (Q (.int (i ^ j.toNat)) st)
  | _, _, _ => False
/-- two tuples, one of them empty; two lists of unlike lengths, or empty -/
def emC (st : Sto) : D → D → Option Bool
  | .tup [], .tup ys => some ys.isEmpty
  | .tup (_ :: _), .tup [] => some false
  | .ref a, .ref b => match lstAt st a, lstAt st b with
    | some xs, some ys => if xs.length = ys.length then (if xs.length = 0 then some true else none) else some false
    | _, _ => none
  | _, _ => none
def wEq (x y : D) (st : Sto) (Q : Bool → Sto → Prop) : Prop := match x, y with
  | .int i, .int j => Q (decide (i = j)) st
  | .str i, .str j => Q (decide (i = j)) st
  | .bl i, .bl j => Q (decide (i = j)) st
  | x, y => (∃ b, emC st x y = some b ∧ Q b st) ∨ match toP fuelP st x, toP fuelP st y with
    | some p, some q => (SeqAt.shaped p = true ∧ SeqAt.shaped q = true) ∧ Q (PyData.eqv p q) st
    | _, _ => False
def flat : D → Bool
  | .non => true | .bl _ => true | .int _ => true | .str _ => true | _ => false
def eqF : D → D → Bool
  | .non, .non => true
  | .bl a, .bl b => a == b
  | .int a, .int b => a == b
  | .bl a, .int b => (if a then 1 else 0) == b
  | .int a, .bl b => a == (if b then 1 else 0)
  | .str a, .str b => a == b
  | _, _ => false
def wIn (x y : D) (st : Sto) (Q : Bool → Sto → Prop) : Prop := match x, y with
  | .str a, .str b => match a.cps.toList with
    | [c] => Q (decide (c ∈ b.cps.toList)) st
    | _ => Q (!(Builtin.Str.occurrences b a 0 b.length 1).isEmpty) st
  | x, y => match seqOf st y with
    | some ys => (flat x = true ∧ ys.all flat = true) ∧ Q (ys.any fun z => eqF z x) st
    | none => match dicGet st y x with
      | some o => Q o.isSome st
      | none => False
def wCmp (o : Cm) (x y : D) (st : Sto) (Q : Bool → Sto → Prop) : Prop := match o with
  | .eq => wEq x y st Q
  | .ne => wEq x y st fun b st' => Q (!b) st'
  | .isin => wIn x y st Q
  | .notin => wIn x y st fun b st' => Q (!b) st'
  | .lt => match x, y with
    | .int i, .int j => Q (decide (i < j)) st
    | .str i, .str j => Q (decide (i.cps.toList < j.cps.toList)) st
    | _, _ => False
  | .le => match x, y with
    | .int i, .int j => Q (decide (i ≤ j)) st
    | _, _ => False
  | .gt => match x, y with
    | .int i, .int j => Q (decide (j < i)) st
    | _, _ => False
  | .ge => match x, y with
    | .int i, .int j => Q (decide (j ≤ i)) st
    | _, _ => False
  | .isn => match x, y with
    | .non, .non => Q true st
    | _, .non => Q false st
    | _, _ => False
  | .isnt => match x, y with
    | .non, .non => Q false st
    | _, .non => Q true st
    | _, _ => False
/-- a subscript -/
def wIx (x y : D) (st : Sto) (Q : KD) : Prop := match y with
  | .int i => match x with
    | .str z => match atI z.cps.toList i with
      | some c => Q (.str ⟨#[c]⟩) st
      | none => False
    | x => match seqOf st x with
      | some xs => match atI xs i with
        | some d => Q d st
        | none => False
      | none => match dicGet st x (.int i) with
        | some (some d) => Q d st
        | _ => False
  | .str k => match dicGet st x (.str k) with
    | some (some d) => Q d st
    | _ => False
  | _ => False
def partD : Bool → D → Option (Option Int)
  | true, .non => some none
  | false, .int i => some (some i)
  | _, _ => none
def E.isNo : E → Bool
  | .no => true
  | _ => false
def cutD (xs : List D) (lo hi : Option Int) : List D := (xs.drop (HT.sIx xs.length 0 lo)).take (HT.sIx xs.length xs.length hi - HT.sIx xs.length 0 lo)
def wSl (x : D) (lo hi : Option Int) (st : Sto) (Q : KD) : Prop := match x with
  | .str z => Q (.str (cutS z lo hi)) st
  | .tup xs => Q (.tup (cutD xs lo hi)) st
  | .ref a => match lstAt st a with
    | some xs => Q (.ref st.length) (st ++ [.lst (cutD xs lo hi)])
    | none => False
  | _ => False
def lenD (st : Sto) : D → Option Nat
  | .str x => some x.length
  | x => match seqOf st x with
    | some xs => some xs.length
    | none => dicLen st x
def blsOf : List D → Option (List Bool)
  | [] => some []
  | .bl x :: r => (blsOf r).map (x :: ·)
  | _ :: _ => none
def intsOf : List D → Option (List Int)
  | [] => some []
  | .int x :: r => (intsOf r).map (x :: ·)
  | _ :: _ => none
/-- what stands in a list at a place -/
def inL {α : Type} (f : List D → Option α) (st : Sto) : D → Option α
  | .ref a => (lstAt st a).bind f
  | _ => none
def wBf (b : Bf) (xs : List D) (st : Sto) (Q : KD) : Prop := match b, xs with
  | .len, [x] => match lenD st x with
    | some n => Q (.int n) st
    | none => False
  | .int, [.int i] => Q (.int i) st
  | .int, [.bl k] => Q (.int (if k then 1 else 0)) st
  | .int, [.str a] => match intText? a with
    | some n => a.length ≤ 640 ∧ Q (.int n) st
    | none => False
  | .str, [.int i] => i.natAbs.log2 < 1920 ∧ (toString i : Str).length ≤ Lm ∧ Q (.str (toString i)) st
  | .min2, [.int i, .int j] => Q (.int (if j < i then j else i)) st
  | .max2, [.int i, .int j] => Q (.int (if j > i then j else i)) st
  | .list, [x] => match seqOf st x with
    | some xs => Q (.ref st.length) (st ++ [.lst xs])
    | none => False
  | .tuple, [x] => match seqOf st x with
    | some xs => Q (.tup xs) st
    | none => False
  | .all, [x] => match inL blsOf st x with
    | some bs => Q (.bl (bs.all id)) st
    | none => False
  | .any, [x] => match inL blsOf st x with
    | some bs => Q (.bl (bs.any id)) st
    | none => False
  | .sum, [x] => match inL intsOf st x with
    | some ns => Q (.int ns.sum) st
    | none => False
  | _, _ => False
def strsOf : List D → Option (List Str)
  | [] => some []
  | .str x :: r => (strsOf r).map (x :: ·)
  | _ :: _ => none
def wMt (m : Mt) (o : D) (xs : List D) (st : Sto) (Q : KD) : Prop := match m, o, xs with
  | .append, .ref a, [d] => match st[a]? with
    | some (.lst ys) => ys.length < Lm ∧ Q .non (st.set a (.lst (ys ++ [d])))
    | _ => False
  | .reverse, .ref a, [] => match st[a]? with
    | some (.lst ys) => Q .non (st.set a (.lst ys.reverse))
    | _ => False
  | .pop, .ref a, [] => match st[a]? with
    | some (.lst ys) => match ys.getLast? with
      | some d => Q d (st.set a (.lst ys.dropLast))
      | none => False
    | _ => False
  | .join, .str s, [x] => match seqOf st x with
    | some ys => match strsOf ys with
      | some zs => (zs.map (·.length)).sum + zs.length * s.length ≤ Lm ∧ (Txt.join s zs).length ≤ Lm ∧ Q (.str (Txt.join s zs)) st
      | none => False
    | none => False
  | .split, .str s, [.str t] => ((t.length == 0) = false ∧ s.length + 2 ≤ Lm ∧ (∀ z ∈ Txt.split s t, z.length ≤ Lm)) ∧ Q (.ref st.length) (st ++ [.lst ((Txt.split s t).map D.str)])
  | .starts, .str s, [.str t] => Q (.bl (Txt.startswith s t)) st
  | .index, .str s, [.str t] => match Builtin.Str.occurrences s t 0 s.length 1 with
    | k :: _ => Q (.int (k : Nat)) st
    | [] => False
  | .get, x, [y] => match dicGet st x y with
    | some o => Q (o.getD .non) st
    | none => False
  | .get, x, [y, z] => match dicGet st x y with
    | some o => Q (o.getD z) st
    | none => False
  | _, _, _ => False
def Mt.onStr : Mt → Bool
  | .join => true
  | .split => true
  | .starts => true
  | .index => true
  | _ => false
def Mt.onDic : Mt → Bool
  | .get => true
  | _ => false
def mtOk (m : Mt) (st : Sto) (d : D) : Bool := match d with
  | .str _ => m.onStr
  | .ref a => !m.onStr && (if m.onDic = true then (dicLen st (.ref a)).isSome else (lstAt st a).isSome)
  | _ => false
def tyN (st : Sto) : D → Option String
  | .non => some "NoneType"
  | .bl _ => some "bool"
  | .int _ => some "int"
  | .str _ => some "str"
  | .tup _ => some "tuple"
  | .ref a => match st[a]? with
    | some (.lst _) => some "list"
    | some (.fls _) => some "list"
    | some (.dK _) => some "dict"
    | some (.dT _) => some "dict"
    | _ => none
def Ty.nm : Ty → String
  | .int => "int" | .str => "str" | .bool => "bool" | .tuple => "tuple" | .list => "list" | .dict => "dict" | .own _ => ""
def Ty.isOwn : Ty → Bool
  | .own _ => true
  | _ => false
def tyHit (n : String) (t : Ty) : Bool := n == t.nm || (n == "bool" && t.nm == "int")

/-- one of two, by a truth -/
def Br (b : Bool) (A B : Prop) : Prop := match b with
  | true => A
  | false => B
/-! ### walks -/
structure It where
  gs : List (Nat × List D)
  xs : List D
def gOk (gs : List (Nat × List D)) (st : Sto) : Prop := ∀ g ∈ gs, lstAt st g.1 = some g.2
def loopC (gs : List (Nat × List D)) (body : D → Sto → (Sto → Prop) → Prop) : List D → Sto → (Sto → Prop) → Prop
  | [], st, K => gOk gs st ∧ K st
  | d :: ds, st, K => gOk gs st ∧ body d st fun st' => loopC gs body ds st' K
def loopF (gs : List (Nat × List D)) (body : D → (En → Sto → Prop) → En → Sto → Prop) : List D → (En → Sto → Prop) → En → Sto → Prop
  | [], K, en, st => gOk gs st ∧ K en st
  | d :: ds, K, en, st => gOk gs st ∧ body d (loopF gs body ds K) en st
def loopW (test : En → Sto → (Bool → Sto → Prop) → Prop) (body : (En → Sto → Prop) → En → Sto → Prop) (K : En → Sto → Prop) : Nat → En → Sto → Prop
  | 0, _, _ => False
  | n + 1, en, st => test en st fun b st1 => Br b (body (loopW test body K n) en st1) (K en st1)
def Tg.slots : Tg → List Nat
  | .nm i => [i]
  | .tp is => is
def setAll : List Nat → List D → En → Option En
  | [], [], en => some en
  | i :: is, d :: ds, en => setAll is ds (en.set i (some d))
  | _, _, _ => none
def bindT (g : Tg) (d : D) (en : En) : Option En := match g, d with
  | .nm i, d => some (en.set i (some d))
  | .tp is, .tup ds => setAll is ds en
  | .tp _, _ => none
def wipeE (en : En) : List Nat → En
  | [] => en
  | v :: vs => (wipeE en vs).set v none
def chars (x : Str) : List D := x.cps.toList.map fun c => .str ⟨#[c]⟩
@[irreducible] def rngL (lo : Int) (n : Nat) : List D := (List.range n).map fun (k : Nat) => .int (lo + (k : Int))
def enumFrom : Nat → List D → List D
  | _, [] => []
  | i, d :: ds => .tup [.int (i : Nat), d] :: enumFrom (i + 1) ds
def enumL (xs : List D) : List D := enumFrom 0 xs
def zipL0 : List D → List D → List D
  | x :: xs, y :: ys => .tup [x, y] :: zipL0 xs ys
  | _, _ => []
@[irreducible] def zipL (xs ys : List D) : List D := zipL0 xs ys
theorem zipL_nl (r : List D) : zipL [] r = [] := by unfold zipL; rfl
theorem zipL_ln (r : List D) : zipL r [] = [] := by unfold zipL; cases r <;> rfl
theorem zipL_cc (x y : D) (xs ys : List D) : zipL (x :: xs) (y :: ys) = .tup [x, y] :: zipL xs ys := by unfold zipL; rfl
def small62 (i : Int) : Prop := -(2 ^ 62) ≤ i ∧ i < 2 ^ 62
theorem dec62_ok {i : Int} (h : dec62 i = true) : small62 i := by
  unfold dec62 at h
  rw [Bool.and_eq_true, decide_eq_true_eq, decide_eq_true_eq] at h
  exact ⟨h.1, h.2⟩

/-- nothing is let out -/
def noX : KX := fun _ _ _ => False
/-- an exception out of a statement: the slots as they stand -/
abbrev KS := Nat → List (Str × D) → En → Sto → Prop
def atS (X : KS) (en : En) : KX := fun c fs st => X c fs en st
/-- what is outside: how defs are called, the module's constants -/
structure XI where
  a : Addr
  d : Option Addr
  c : Nat
  fs : List (Str × D)
structure Cl where
  call : Nat → List D → Sto → KD → KX → Prop
  G : List D
  /-- the exception classes: those with fields tell them -/
  X : List (Option (List Str)) := []
  /-- which is under which -/
  sub : Nat → Nat → Option Bool := fun _ _ => none
  /-- the exception that is handled -/
  ex : Option XI := none
  /-- the module's own dicts, with texts as keys -/
  KD : List (List (Str × D)) := []
def kdAt (kd : List (List (Str × D))) (k : Nat) : D → Option (Option D)
  | .str z => (kd[k]?).map fun es => es.lookup z
  | _ => none
def subAny (f : Nat → Option Bool) : List Nat → Option Bool
  | [] => some false
  | t :: ts => match f t, subAny f ts with
    | some b, some c => some (b || c)
    | _, _ => none

section
variable (C : Cl)
mutual
def wE : E → En → Sto → KD → KX → Prop
  | .var i, en, st, Q, _ => match en[i]? with
    | some (some d) => Q d st
    | _ => False
  | .int i, _, st, Q, _ => Q (.int i) st
  | .str x, _, st, Q, _ => Q (.str x) st
  | .bl b, _, st, Q, _ => Q (.bl b) st
  | .non, _, st, Q, _ => Q .non st
  | .glob k, _, st, Q, _ => match C.G[k]? with
    | some d => Q d st
    | none => False
  | .bin o a b, en, st, Q, X => wE a en st (fun x st1 => wE b en st1 (fun y st2 => wBin o x y st2 Q) X) X
  | .neg a, en, st, Q, X => wE a en st (fun x st1 => match x with
    | .int i => Q (.int (-i)) st1
    | _ => False) X
  | .cmp o a b, en, st, Q, X => wE a en st (fun x st1 => wE b en st1 (fun y st2 => wCmp o x y st2 fun t st3 => Q (.bl t) st3) X) X
  | .chain o p a b c, en, st, Q, X => wE a en st (fun x st1 => wE b en st1 (fun y st2 => wCmp o x y st2 fun t st3 =>
      Br t (wE c en st3 (fun z st4 => wCmp p y z st4 fun u st5 => Q (.bl u) st5) X) (Q (.bl false) st3)) X) X
  | .and a b, en, st, Q, X => wE a en st (fun x st1 => match tru st1 x with
    | some t => Br t (wE b en st1 Q X) (Q x st1)
    | none => False) X
  | .or a b, en, st, Q, X => wE a en st (fun x st1 => match tru st1 x with
    | some t => Br t (Q x st1) (wE b en st1 Q X)
    | none => False) X
  | .not a, en, st, Q, X => wE a en st (fun x st1 => match tru st1 x with
    | some t => Q (.bl (!t)) st1
    | none => False) X
  | .ite c a b, en, st, Q, X => wT c en st (fun t st1 => Br t (wE a en st1 Q X) (wE b en st1 Q X)) X
  | .ix a i, en, st, Q, X => wE a en st (fun x st1 => wE i en st1 (fun y st2 => wIx x y st2 Q) X) X
  | .sl a lo hi, en, st, Q, X => wE a en st (fun x st1 => wE lo en st1 (fun y st2 => match partD lo.isNo y with
    | some l => wE hi en st2 (fun z st3 => match partD hi.isNo z with
      | some u => wSl x l u st3 Q
      | none => False) X
    | none => False) X) X
  | .no, _, st, Q, _ => Q .non st
  | .tup es, en, st, Q, X => wEs es en st (fun xs st1 => Mu (shortL 256 xs) (Q (.tup xs) st1)) X
  | .lst es, en, st, Q, X => wEs es en st (fun xs st1 => Mu (shortL 256 xs) (Q (.ref st1.length) (st1 ++ [.lst xs]))) X
  | .dct ks vs, en, st, Q, X => wEs vs en (st ++ [.dK []]) (fun ys st1 => match st1[st.length]? with
    | some (.dK []) => Q (.ref st.length) (st1.set st.length (.dK ((ks.zip ys).foldl (fun acc kv => dPut acc kv.1 kv.2) [])))
    | _ => False) X
  | .kget k e, en, st, Q, X => wE e en st (fun x st1 => match kdAt C.KD k x with
    | some o => Q (o.getD .non) st1
    | none => False) X
  | .kix k e, en, st, Q, X => wE e en st (fun x st1 => match kdAt C.KD k x with
    | some (some d) => Q d st1
    | _ => False) X
  | .kin neg k e, en, st, Q, X => wE e en st (fun x st1 => match kdAt C.KD k x with
    | some o => Q (.bl (neg != o.isSome)) st1
    | none => False) X
  | .dc0, _, st, Q, _ => Q (.ref st.length) (st ++ [.dK []])
  | .dcT, _, st, Q, _ => Q (.ref st.length) (st ++ [.dT []])
  | .call f es, en, st, Q, X => wEs es en st (fun xs st1 => C.call f xs st1 Q X) X
  | .bf b es, en, st, Q, X => wEs es en st (fun xs st1 => wBf b xs st1 Q) X
  | .isi e ts, en, st, Q, X => wE e en st (fun x st1 => match tyN st1 x with
    | some n => Q (.bl (ts.any (tyHit n))) st1
    | none => False) X
  | .exf f, _, st, Q, _ => match C.ex with
    | some x => match x.fs.lookup f with
      | some d => Q d st
      | none => False
    | none => False
  | .isx ts, _, st, Q, _ => match C.ex with
    | some x => match subAny (C.sub x.c) ts with
      | some b => Q (.bl b) st
      | none => False
    | none => False
  | .mt m o es, en, st, Q, X => wE o en st (fun x st1 => Mu (mtOk m st1 x) (wEs es en st1 (fun xs st2 => wMt m x xs st2 Q) X)) X
  | .comp elt g it c, en, st, Q, X => wI it en st (fun J st1 =>
      loopC J.gs (fun d st2 K => match bindT g d (wipeE en g.slots) with
        | some en' => wT c en' st2 (fun t st3 => Br t (wE elt en' st3 (fun y st4 => match st4[st1.length]? with
            | some (.lst acc) => acc.length < Lm ∧ K (st4.set st1.length (.lst (acc ++ [y])))
            | _ => False) noX) (K st3)) noX
        | none => False) J.xs (st1 ++ [.lst []]) fun st5 => Q (.ref st1.length) st5) X
def wEs : Es → En → Sto → (List D → Sto → Prop) → KX → Prop
  | .nil, _, st, Q, _ => Q [] st
  | .cons e es, en, st, Q, X => wE e en st (fun x st1 => wEs es en st1 (fun xs st2 => Q (x :: xs) st2) X) X
def wT : T → En → Sto → (Bool → Sto → Prop) → KX → Prop
  | .yes, _, st, Q, _ => Q true st
  | .val e, en, st, Q, X => wE e en st (fun x st1 => match tru st1 x with
    | some t => Q t st1
    | none => False) X
  | .and a b, en, st, Q, X => wT a en st (fun t st1 => Br t (wT b en st1 Q X) (Q false st1)) X
  | .or a b, en, st, Q, X => wT a en st (fun t st1 => Br t (Q true st1) (wT b en st1 Q X)) X
  | .not a, en, st, Q, X => wT a en st (fun t st1 => Q (!t) st1) X
  | .ite c a b, en, st, Q, X => wT c en st (fun t st1 => Br t (wT a en st1 Q X) (wT b en st1 Q X)) X
def wI : I → En → Sto → (It → Sto → Prop) → KX → Prop
  | .seq e, en, st, Q, X => wE e en st (fun x st1 => match x with
    | .tup xs => Q ⟨[], xs⟩ st1
    | .str z => Q ⟨[], chars z⟩ st1
    | .ref a => match lstAt st1 a with
      | some xs => Q ⟨[(a, xs)], xs⟩ st1
      | none => False
    | _ => False) X
  | .rng1 a, en, st, Q, X => wE a en st (fun x st1 => match x with
    | .int j => Mu (dec62 j) (Q ⟨[], rngL 0 j.toNat⟩ st1)
    | _ => False) X
  | .rng2 a b, en, st, Q, X => wE a en st (fun x st1 => wE b en st1 (fun y st2 => match x, y with
    | .int i, .int j => Mu (dec62 i) (Mu (dec62 j) (Q ⟨[], rngL i (j - i).toNat⟩ st2))
    | _, _ => False) X) X
  | .enum e, en, st, Q, X => wE e en st (fun x st1 => match x with
    | .ref a => match lstAt st1 a with
      | some xs => Q ⟨[(a, xs)], enumL xs⟩ st1
      | none => False
    | _ => False) X
  | .zip a b, en, st, Q, X => wE a en st (fun x st1 => wE b en st1 (fun y st2 => match x, y with
    | .ref a, .ref b => match lstAt st2 a, lstAt st2 b with
      | some xs, some ys => Q ⟨[(a, xs), (b, ys)], zipL xs ys⟩ st2
      | _, _ => False
    | .tup xs, .tup ys => Q ⟨[], zipL xs ys⟩ st2
    | _, _ => False) X) X
  | .rev e, en, st, Q, X => wE e en st (fun x st1 => match x with
    | .ref a => match lstAt st1 a with
      | some xs => Q ⟨[(a, xs)], xs.reverse⟩ st1
      | none => False
    | _ => False) X
end

/-- what is wanted behind a statement -/
structure Nd where
  nx : En → Sto → Prop
  rt : KD
  bk : En → Sto → Prop := fun _ _ => False
  ct : En → Sto → Prop := fun _ _ => False
/-- the statements behind -/
def Nd.th (N : Nd) (f : En → Sto → Prop) : Nd := { nx := f, rt := N.rt, bk := N.bk, ct := N.ct }
/-- within a loop -/
def Nd.lp (N : Nd) (f : En → Sto → Prop) : Nd := { nx := f, rt := N.rt, bk := N.nx, ct := f }
def Nd.wipe (N : Nd) : Option Nat → Nd
  | none => N
  | some i => { nx := fun en st => N.nx (en.set i none) st, rt := N.rt, bk := fun en st => N.bk (en.set i none) st, ct := fun en st => N.ct (en.set i none) st }
def enX (en : En) : Option Nat → En
  | none => en
  | some i => en.set i none
end
mutual
def wS : S → Cl → Nd → KS → En → Sto → Prop
  | .rais c es, C, _, X, en, st => wEs C es en st (fun xs st1 => match C.X[c]? with
    | some none => match xs with
      | [.str _] => X c [] en st1
      | _ => False
    | some (some fs) => xs.length = fs.length ∧ X c (fs.zip xs) en st1
    | none => False) (atS X en)
  | .tryx b cs i h, C, N, X, en, st => wSs b C N (fun c fs en1 st1 => match subAny (C.sub c) cs with
    | some true => ∀ a d, wSs h { C with ex := some ⟨a, d, c, fs⟩ } (N.wipe i) (fun _ _ _ _ => False) (enX en1 i) st1
    | some false => X c fs en1 st1
    | none => False) en st
  | .ex e, C, N, X, en, st => wE C e en st (fun _ st1 => N.nx en st1) (atS X en)
  | .asg g e, C, N, X, en, st => wE C e en st (fun x st1 => match bindT g x en with
    | some en' => N.nx en' st1
    | none => False) (atS X en)
  | .six o i v, C, N, X, en, st => wE C v en st (fun z st1 => wE C o en st1 (fun x st2 => wE C i en st2 (fun y st3 => match x with
    | .ref a => match putAt st3 a y z with
      | some st' => N.nx en st'
      | none => False
    | _ => False) (atS X en)) (atS X en)) (atS X en)
  | .iff c a b, C, N, X, en, st => wT C c en st (fun t st1 => Br t (wSs a C N X en st1) (wSs b C N X en st1)) (atS X en)
  | .for g it b, C, N, X, en, st => wI C it en st (fun J st1 => loopF J.gs (fun d K en1 st2 => match bindT g d en1 with
    | some en2 => wSs b C (N.lp K) X en2 st2
    | none => False) J.xs N.nx en st1) (atS X en)
  | .wh c b, C, N, X, en, st => ∃ n, loopW (fun en1 st1 K => wT C c en1 st1 K (atS X en1)) (fun K en1 st1 => wSs b C (N.lp K) X en1 st1) N.nx n en st
  | .ret e, C, N, X, en, st => wE C e en st N.rt (atS X en)
  | .pass, _, N, _, en, st => N.nx en st
  | .brk, _, N, _, en, st => N.bk en st
  | .cont, _, N, _, en, st => N.ct en st
  | .stop, _, _, _, _, _ => False
def wSs : Ss → Cl → Nd → KS → En → Sto → Prop
  | .nil, _, N, _, en, st => N.nx en st
  | .cons s r, C, N, X, en, st => wS s C (N.th fun en1 st1 => wSs r C N X en1 st1) X en st
end

/-- a def: how many names, how many parameters, its body -/
structure Df where
  n : Nat
  a : Nat
  b : Ss
/-- the program: its constants, exception classes, defs -/
structure Pr where
  G : List D
  P : List Df
  X : List (Option (List Str)) := []
  sub : Nat → Nat → Option Bool := fun _ _ => none
  KD : List (List (Str × D)) := []
abbrev CallT : Type := Nat → List D → Sto → KD → KX → Prop
def stepN (p : Pr) (c : CallT) : CallT := fun f xs st Q X => match p.P[f]? with
  | some d => xs.length = d.a ∧ wSs d.b { call := c, G := p.G, X := p.X, sub := p.sub, KD := p.KD } { nx := fun _ st' => Q .non st', rt := Q } (fun c fs _ st' => X c fs st') (xs.map some ++ List.replicate (d.n - d.a) none) st
  | none => False
@[irreducible] def callN (p : Pr) (n : Nat) : CallT := Nat.rec (motive := fun _ => CallT) (fun _ _ _ _ _ => False) (fun _ c => stepN p c) n
theorem callN_eq0 {p : Pr} : callN p 0 = fun _ _ _ _ _ => False := by unfold callN; rfl
theorem callN_eq {p : Pr} {n : Nat} : callN p (n + 1) = stepN p (callN p n) := by
  unfold callN
  rfl
theorem callN_zero {p : Pr} {f : Nat} {xs : List D} {st : Sto} {Q : KD} {X : KX} : ¬ callN p 0 f xs st Q X := fun h => by
  rw [callN_eq0] at h
  exact h
abbrev Pr.cl (p : Pr) (n : Nat) : Cl := { call := callN p n, G := p.G, X := p.X, sub := p.sub, KD := p.KD }
theorem callN_succ {p : Pr} {n f : Nat} {xs : List D} {st : Sto} {Q : KD} {X : KX} : callN p (n + 1) f xs st Q X ↔ ∃ d, p.P[f]? = some d ∧ xs.length = d.a ∧ wSs d.b (p.cl n) { nx := fun _ st' => Q .non st', rt := Q } (fun c fs _ st' => X c fs st') (xs.map some ++ List.replicate (d.n - d.a) none) st := by
  rw [callN_eq]
  unfold stepN
  constructor
  · intro h
    split at h
    · rename_i d e
      exact ⟨d, e, h.1, h.2⟩
    · exact h.elim
  · rintro ⟨d, e, h1, h2⟩
    rw [e]
    exact ⟨h1, h2⟩
/-- a def runs -/
theorem callN_run {p : Pr} {n f : Nat} {d : Df} {xs : List D} {st : Sto} {Q : KD} {X : KX} (h : p.P[f]? = some d) (hl : xs.length = d.a) (hw : wSs d.b (p.cl n) { nx := fun _ st' => Q .non st', rt := Q } (fun c fs _ st' => X c fs st') (xs.map some ++ List.replicate (d.n - d.a) none) st) : callN p (n + 1) f xs st Q X :=
  callN_succ.mpr ⟨d, h, hl, hw⟩
end Q3

set_option Elab.async false
set_option linter.all false
set_option maxRecDepth 100000
set_option maxHeartbeats 4000000
/-! Q3b: how values and the store lie in the abstract heap. -/
namespace Q3
open PySem PySem.Spec PyProof.Rows L2

section
variable (K : PySem.W.Frag) (ρ : List Addr) (H : Hp)
mutual
def Rep : D → V → Prop
  | .non, v => v = .non
  | .bl b, v => v = .bl b
  | .int i, v => v = .int i
  | .str x, v => v = .str x ∧ x.length ≤ Lm
  | .tup ds, v => ∃ a vs, v = .ref a ∧ SqT K H a vs ∧ Reps ds vs
  | .ref n, v => ∃ a, ρ[n]? = some a ∧ v = .ref a
def Reps : List D → List V → Prop
  | [], vs => vs = []
  | d :: ds, vs => ∃ v r, vs = v :: r ∧ Rep d v ∧ Reps ds r
end
/-- a list of the written part -/
def KLst (a : Addr) (xs : List V) : Prop :=
  ∃ (o : Obj) (its : Array Value) (n : Nat), K.lookup a = some o ∧ o.cls = .type "list" ∧ o.dict = none ∧ o.data = .seq its n ∧ its.size ≤ sizeLine ∧ Vals xs its.toList
def RepO : O → Addr → Prop
  | .lst ds, a => ∃ vs, H a = some (.lst vs) ∧ Reps K ρ H ds vs
  | .fls ds, a => ∃ vs, ((∃ o, H a = some (.frz o (.lst vs))) ∨ KLst K a vs) ∧ Reps K ρ H ds vs
  | .dK kvs, a => ∃ vs : List (Key × V), H a = some (.dK vs) ∧ vs.map (·.1) = kvs.map (·.1) ∧ Reps K ρ H (kvs.map (·.2)) (vs.map (·.2))
  | .dT kvs, a => ∃ vs : List (List Key × V), H a = some (.dT vs) ∧ vs.map (·.1) = kvs.map (·.1) ∧ Reps K ρ H (kvs.map (·.2)) (vs.map (·.2))
  | _, _ => False
end
structure Ab (K : PySem.W.Frag) (ρ : List Addr) (st : Sto) (H : Hp) : Prop where
  len : ρ.length = st.length
  at_ : ∀ (n : Nat) o a, st[n]? = some o → ρ[n]? = some a → RepO K ρ H o a
  inj : ∀ (n m : Nat) a o o', ρ[n]? = some a → ρ[m]? = some a → st[n]? = some o → st[m]? = some o' → o.mu = true → o'.mu = true → n = m
/-- later: places stay, tuples and frozen things stay -/
structure Ex (ρ : List Addr) (H : Hp) (ρ' : List Addr) (H' : Hp) : Prop where
  pre : ∀ (n : Nat) a, ρ[n]? = some a → ρ'[n]? = some a
  tup : ∀ b xs, H b = some (.tup xs) → H' b = some (.tup xs)
  frz : ∀ b o u, H b = some (.frz o u) → H' b = some (.frz o u)
  xd : ∀ b fs, H b = some (.xd fs) → H' b = some (.xd fs)
structure Evn (K : PySem.W.Frag) (ρ : List Addr) (H : Hp) (en : En) (σ : L2.St) : Prop where
  len : en.length = σ.length
  at_ : ∀ (i : Nat) d, en[i]? = some (some d) → ∃ v, σ[i]? = some (some v) ∧ Rep K ρ H d v

variable {K : PySem.W.Frag} {ρ ρ' ρ'' : List Addr} {H H' H'' : Hp} {st : Sto} {en : En} {σ : L2.St}
theorem Ex.refl : Ex ρ H ρ H := ⟨fun _ _ h => h, fun _ _ h => h, fun _ _ _ h => h, fun _ _ h => h⟩
theorem Ex.trans (a : Ex ρ H ρ' H') (b : Ex ρ' H' ρ'' H'') : Ex ρ H ρ'' H'' :=
  ⟨fun n x h => b.pre n x (a.pre n x h), fun n x h => b.tup n x (a.tup n x h), fun n x y h => b.frz n x y (a.frz n x y h), fun n x h => b.xd n x (a.xd n x h)⟩
theorem Ex.sqT {a : Addr} {xs : List V} (e : Ex ρ H ρ' H') (h : SqT K H a xs) : SqT K H' a xs := by
  rcases h with (h | ⟨o, h⟩) | h
  · exact .inl (.inl (e.tup _ _ h))
  · exact .inl (.inr ⟨o, e.frz _ _ _ h⟩)
  · exact .inr h
mutual
theorem Rep.ext (e : Ex ρ H ρ' H') : ∀ (d : D) (v : V), Rep K ρ H d v → Rep K ρ' H' d v
  | .non, v, h => by unfold Rep at h ⊢; exact h
  | .bl b, v, h => by unfold Rep at h ⊢; exact h
  | .int i, v, h => by unfold Rep at h ⊢; exact h
  | .str x, v, h => by unfold Rep at h ⊢; exact h
  | .tup ds, v, h => by
    unfold Rep at h ⊢
    obtain ⟨a, vs, h1, h2, h3⟩ := h
    exact ⟨a, vs, h1, e.sqT h2, Reps.ext e ds vs h3⟩
  | .ref n, v, h => by
    unfold Rep at h ⊢
    obtain ⟨a, h1, h2⟩ := h
    exact ⟨a, e.pre _ _ h1, h2⟩
theorem Reps.ext (e : Ex ρ H ρ' H') : ∀ (ds : List D) (vs : List V), Reps K ρ H ds vs → Reps K ρ' H' ds vs
  | [], vs, h => by unfold Reps at h ⊢; exact h
  | d :: ds, vs, h => by
    unfold Reps at h ⊢
    obtain ⟨v, r, h1, h2, h3⟩ := h
    exact ⟨v, r, h1, Rep.ext e d v h2, Reps.ext e ds r h3⟩
end
theorem rep_non {v : V} : Rep K ρ H .non v ↔ v = .non := by rw [Rep]
theorem rep_bl {v : V} {b : Bool} : Rep K ρ H (.bl b) v ↔ v = .bl b := by rw [Rep]
theorem rep_int {v : V} {i : Int} : Rep K ρ H (.int i) v ↔ v = .int i := by rw [Rep]
theorem rep_str {v : V} {x : Str} : Rep K ρ H (.str x) v ↔ v = .str x ∧ x.length ≤ Lm := by rw [Rep]
theorem rep_tup {v : V} {ds : List D} : Rep K ρ H (.tup ds) v ↔ ∃ a vs, v = .ref a ∧ SqT K H a vs ∧ Reps K ρ H ds vs := by rw [Rep]
theorem rep_ref {v : V} {n : Nat} : Rep K ρ H (.ref n) v ↔ ∃ a, ρ[n]? = some a ∧ v = .ref a := by rw [Rep]
theorem reps_nil {vs : List V} : Reps K ρ H [] vs ↔ vs = [] := by rw [Reps]
theorem reps_cons {d : D} {ds : List D} {vs : List V} : Reps K ρ H (d :: ds) vs ↔ ∃ v r, vs = v :: r ∧ Rep K ρ H d v ∧ Reps K ρ H ds r := by rw [Reps]
theorem Reps.length : ∀ {ds : List D} {vs : List V}, Reps K ρ H ds vs → ds.length = vs.length
  | [], vs, h => by rw [reps_nil] at h; subst h; rfl
  | d :: ds, vs, h => by
    rw [reps_cons] at h
    obtain ⟨v, r, rfl, _, h3⟩ := h
    rw [List.length_cons, List.length_cons, Reps.length h3]
theorem Reps.append : ∀ {ds es : List D} {vs us : List V}, Reps K ρ H ds vs → Reps K ρ H es us → Reps K ρ H (ds ++ es) (vs ++ us)
  | [], _, vs, _, h, h' => by rw [reps_nil] at h; subst h; exact h'
  | d :: ds, _, vs, _, h, h' => by
    rw [reps_cons] at h
    obtain ⟨v, r, rfl, h2, h3⟩ := h
    exact reps_cons.mpr ⟨v, _, rfl, h2, Reps.append h3 h'⟩
theorem Reps.get : ∀ {ds : List D} {vs : List V} {i : Nat} {d : D}, Reps K ρ H ds vs → ds[i]? = some d → ∃ v, vs[i]? = some v ∧ Rep K ρ H d v
  | [], vs, i, d, h, e => by simp at e
  | x :: ds, vs, 0, d, h, e => by
    rw [reps_cons] at h
    obtain ⟨v, r, rfl, h2, h3⟩ := h
    simp at e; subst e
    exact ⟨v, rfl, h2⟩
  | x :: ds, vs, i + 1, d, h, e => by
    rw [reps_cons] at h
    obtain ⟨v, r, rfl, h2, h3⟩ := h
    exact Reps.get (i := i) h3 (by simpa using e)
theorem Reps.take : ∀ {ds : List D} {vs : List V} (n : Nat), Reps K ρ H ds vs → Reps K ρ H (ds.take n) (vs.take n)
  | _, _, 0, _ => reps_nil.mpr rfl
  | [], vs, n + 1, h => by rw [reps_nil] at h; subst h; exact reps_nil.mpr rfl
  | d :: ds, vs, n + 1, h => by
    rw [reps_cons] at h
    obtain ⟨v, r, rfl, h2, h3⟩ := h
    exact reps_cons.mpr ⟨v, _, rfl, h2, Reps.take n h3⟩
theorem Reps.drop : ∀ {ds : List D} {vs : List V} (n : Nat), Reps K ρ H ds vs → Reps K ρ H (ds.drop n) (vs.drop n)
  | _, _, 0, h => h
  | [], vs, n + 1, h => by rw [reps_nil] at h; subst h; exact reps_nil.mpr rfl
  | d :: ds, vs, n + 1, h => by
    rw [reps_cons] at h
    obtain ⟨v, r, rfl, h2, h3⟩ := h
    exact Reps.drop n h3
theorem Reps.set : ∀ {ds : List D} {vs : List V} (n : Nat) {d : D} {v : V}, Reps K ρ H ds vs → Rep K ρ H d v → Reps K ρ H (ds.set n d) (vs.set n v)
  | [], vs, n, _, _, h, _ => by rw [reps_nil] at h; subst h; exact reps_nil.mpr rfl
  | x :: ds, vs, 0, _, _, h, h' => by
    rw [reps_cons] at h
    obtain ⟨v, r, rfl, h2, h3⟩ := h
    exact reps_cons.mpr ⟨_, _, rfl, h', h3⟩
  | x :: ds, vs, n + 1, _, _, h, h' => by
    rw [reps_cons] at h
    obtain ⟨v, r, rfl, h2, h3⟩ := h
    exact reps_cons.mpr ⟨v, _, rfl, h2, Reps.set n h3 h'⟩
theorem Reps.reverse {ds : List D} {vs : List V} (h : Reps K ρ H ds vs) : Reps K ρ H ds.reverse vs.reverse := by
  have go : ∀ (ds : List D) (vs : List V), Reps K ρ H ds vs → Reps K ρ H ds.reverse vs.reverse := by
    intro ds
    induction ds with
    | nil => intro vs h; rw [reps_nil] at h; subst h; exact reps_nil.mpr rfl
    | cons d ds ih =>
      intro vs h
      rw [reps_cons] at h
      obtain ⟨v, r, rfl, h2, h3⟩ := h
      rw [List.reverse_cons, List.reverse_cons]
      exact (ih r h3).append (reps_cons.mpr ⟨v, [], rfl, h2, reps_nil.mpr rfl⟩)
  exact go ds vs h
theorem Reps.dropLast {ds : List D} {vs : List V} (h : Reps K ρ H ds vs) : Reps K ρ H ds.dropLast vs.dropLast := by
  rw [List.dropLast_eq_take, List.dropLast_eq_take, ← h.length]
  exact h.take _
theorem Reps.flat_rep {ds : List D} {vs : List V} (h : Reps K ρ H ds vs) : ∀ n, Reps K ρ H (List.replicate n ds).flatten (List.replicate n vs).flatten
  | 0 => reps_nil.mpr rfl
  | n + 1 => by
    rw [List.replicate_succ, List.replicate_succ, List.flatten_cons, List.flatten_cons]
    exact h.append (h.flat_rep n)

/-! ### the heap changes -/
theorem ex_new {p : Addr} {o : HO} (hp : H p = none) (as : List Addr) : Ex ρ H (ρ ++ as) (upd H p o) := by
  refine ⟨fun n a h => ?_, fun b xs h => ?_, fun b u x h => ?_, fun b fs h => ?_⟩
  · rw [List.getElem?_append_left]
    · exact h
    · exact (List.getElem?_eq_some_iff.mp h).1
  · rw [upd_ne (ne_of_none h hp)]; exact h
  · rw [upd_ne (ne_of_none h hp)]; exact h
  · rw [upd_ne (ne_of_none h hp)]; exact h
theorem ex_new0 {p : Addr} {o : HO} (hp : H p = none) : Ex ρ H ρ (upd H p o) := by
  have := ex_new (ρ := ρ) (o := o) hp []
  rwa [List.append_nil] at this
def wrH : HO → Bool
  | .lst _ => true
  | .dK _ => true
  | .dT _ => true
  | _ => false
theorem ex_wrO {p : Addr} {o u : HO} (hp : H p = some u) (hu : wrH u = true) : Ex ρ H ρ (upd H p o) := by
  refine ⟨fun n a h => h, fun b xs h => ?_, fun b v x h => ?_, fun b fs h => ?_⟩
  · rw [upd_ne (ne_of h hp (by rintro rfl; cases hu))]; exact h
  · rw [upd_ne (ne_of h hp (by rintro rfl; cases hu))]; exact h
  · rw [upd_ne (ne_of h hp (by rintro rfl; cases hu))]; exact h
theorem ex_wr {p : Addr} {o : HO} {xs : List V} (hp : H p = some (.lst xs)) : Ex ρ H ρ (upd H p o) := ex_wrO hp rfl
/-- an object that isn't written stays -/
theorem RepO.stay {o : O} {a p : Addr} {u : HO} (h : RepO K ρ H o a) (e : Ex ρ H ρ' (upd H p u)) (hne : o.mu = true → a ≠ p) : RepO K ρ' (upd H p u) o a := by
  cases o with
  | lst ds =>
    obtain ⟨vs, h1, h2⟩ := h
    exact ⟨vs, by rw [upd_ne (hne rfl)]; exact h1, h2.ext e⟩
  | fls ds =>
    obtain ⟨vs, h1, h2⟩ := h
    refine ⟨vs, ?_, h2.ext e⟩
    rcases h1 with ⟨o, h1⟩ | h1
    · exact .inl ⟨o, e.frz _ _ _ h1⟩
    · exact .inr h1
  | dK ds =>
    obtain ⟨vs, h1, h2, h3⟩ := h
    exact ⟨vs, by rw [upd_ne (hne rfl)]; exact h1, h2, h3.ext e⟩
  | dT ds =>
    obtain ⟨vs, h1, h2, h3⟩ := h
    exact ⟨vs, by rw [upd_ne (hne rfl)]; exact h1, h2, h3.ext e⟩
  | ins _ _ => exact False.elim h
theorem RepO.some_of {o : O} {a : Addr} (h : RepO K ρ H o a) (m : o.mu = true) : ∃ u, H a = some u := by
  cases o with
  | lst ds => obtain ⟨vs, h1, _⟩ := h; exact ⟨_, h1⟩
  | fls ds => exact (Bool.false_ne_true m).elim
  | dK ds => obtain ⟨vs, h1, _⟩ := h; exact ⟨_, h1⟩
  | dT ds => obtain ⟨vs, h1, _⟩ := h; exact ⟨_, h1⟩
  | ins _ _ => exact False.elim h
theorem Ab.get (A : Ab K ρ st H) {n : Nat} {o : O} (h : st[n]? = some o) : ∃ a, ρ[n]? = some a ∧ RepO K ρ H o a := by
  have hl : n < ρ.length := by rw [A.len]; exact (List.getElem?_eq_some_iff.mp h).1
  exact ⟨ρ[n], List.getElem?_eq_getElem hl, A.at_ n o _ h (List.getElem?_eq_getElem hl)⟩
/-- a heap that tracks one thing more which is no place -/
theorem Ab.track (A : Ab K ρ st H) {p : Addr} {u : HO} (hp : H p = none) : Ab K ρ st (upd H p u) :=
  ⟨A.len, fun n o a h1 h2 => (A.at_ n o a h1 h2).stay (ex_new0 hp) fun m => by
    obtain ⟨w, hw⟩ := (A.at_ n o a h1 h2).some_of m
    exact ne_of_none hw hp, A.inj⟩
/-- a new thing -/
theorem Ab.newO (A : Ab K ρ st H) {p : Addr} {u : HO} {o0 : O} (hp : H p = none) (r : RepO K (ρ ++ [p]) (upd H p u) o0 p) : Ab K (ρ ++ [p]) (st ++ [o0]) (upd H p u) := by
  have e : Ex ρ H (ρ ++ [p]) (upd H p u) := ex_new hp [p]
  have old : ∀ {n : Nat} {a : Addr} {o : O}, (st ++ [o0])[n]? = some o → (ρ ++ [p])[n]? = some a → (st[n]? = some o ∧ ρ[n]? = some a) ∨ (n = st.length ∧ o = o0 ∧ a = p) := by
    intro n a o h1 h2
    by_cases hn : n < st.length
    · rw [List.getElem?_append_left hn] at h1
      rw [List.getElem?_append_left (by rw [A.len]; exact hn)] at h2
      exact .inl ⟨h1, h2⟩
    · have hn' : n = st.length := by
        have := (List.getElem?_eq_some_iff.mp h1).1
        rw [List.length_append, List.length_singleton] at this
        omega
      subst hn'
      rw [List.getElem?_append_right (Nat.le_refl _), Nat.sub_self] at h1
      rw [List.getElem?_append_right (by rw [A.len]; exact Nat.le_refl _), A.len, Nat.sub_self] at h2
      simp at h1 h2
      exact .inr ⟨rfl, h1.symm, h2.symm⟩
  refine ⟨by rw [List.length_append, List.length_append, A.len]; rfl, fun n o a h1 h2 => ?_, fun n m a o o' h1 h2 h3 h4 m1 m2 => ?_⟩
  · rcases old h1 h2 with ⟨q1, q2⟩ | ⟨_, rfl, rfl⟩
    · exact (A.at_ n o a q1 q2).stay e fun m => by
        obtain ⟨w, hw⟩ := (A.at_ n o a q1 q2).some_of m
        exact ne_of_none hw hp
    · exact r
  · rcases old h3 h1 with ⟨q1, q2⟩ | ⟨e1, rfl, rfl⟩
    · rcases old h4 h2 with ⟨q3, q4⟩ | ⟨e2, rfl, rfl⟩
      · exact A.inj n m a o o' q2 q4 q1 q3 m1 m2
      · obtain ⟨w, hw⟩ := (A.at_ n o _ q1 q2).some_of m1
        rw [hp] at hw; cases hw
    · rcases old h4 h2 with ⟨q3, q4⟩ | ⟨e2, _, _⟩
      · obtain ⟨w, hw⟩ := (A.at_ m o' _ q3 q4).some_of m2
        rw [hp] at hw; cases hw
      · rw [e1, e2]
/-- a new list -/
theorem Ab.newL (A : Ab K ρ st H) {p : Addr} {vs : List V} {ds : List D} (hp : H p = none) (r : Reps K ρ H ds vs) : Ab K (ρ ++ [p]) (st ++ [.lst ds]) (upd H p (.lst vs)) :=
  A.newO hp ⟨vs, upd_same, r.ext (ex_new hp [p])⟩
/-- a thing written -/
theorem Ab.setO (A : Ab K ρ st H) {n : Nat} {p : Addr} {u u0 : HO} {o0 o1 : O} (hn : st[n]? = some o0) (m0 : o0.mu = true) (hr : ρ[n]? = some p) (hp : H p = some u0) (hu : wrH u0 = true) (r : RepO K ρ (upd H p u) o1 p) :
    Ab K ρ (st.set n o1) (upd H p u) := by
  have e : Ex ρ H ρ (upd H p u) := ex_wrO hp hu
  have hl : n < st.length := (List.getElem?_eq_some_iff.mp hn).1
  refine ⟨by rw [List.length_set]; exact A.len, fun m o a h1 h2 => ?_, fun m k a o o' h1 h2 h3 h4 m1 m2 => ?_⟩
  · by_cases hm : n = m
    · subst hm
      rw [List.getElem?_set_self hl] at h1
      rw [hr] at h2
      cases h1; cases h2
      exact r
    · rw [List.getElem?_set_ne hm] at h1
      refine (A.at_ m o a h1 h2).stay e fun mu z => ?_
      subst z
      exact hm (A.inj n m a _ o hr h2 hn h1 m0 mu)
  · have back : ∀ {j : Nat} {u : O}, (st.set n o1)[j]? = some u → u.mu = true → ∃ u', st[j]? = some u' ∧ u'.mu = true := by
      intro j u hj mu
      by_cases hm : n = j
      · subst hm; exact ⟨_, hn, m0⟩
      · rw [List.getElem?_set_ne hm] at hj; exact ⟨u, hj, mu⟩
    obtain ⟨u1, q1, n1⟩ := back h3 m1
    obtain ⟨u2, q2, n2⟩ := back h4 m2
    exact A.inj m k a u1 u2 h1 h2 q1 q2 n1 n2

/-- a list written -/
theorem Ab.setL (A : Ab K ρ st H) {n : Nat} {p : Addr} {vs us : List V} {ds ds0 : List D} (hn : st[n]? = some (.lst ds0)) (hr : ρ[n]? = some p) (hp : H p = some (.lst us)) (r : Reps K ρ H ds vs) :
    Ab K ρ (st.set n (.lst ds)) (upd H p (.lst vs)) := A.setO hn rfl hr hp rfl ⟨vs, upd_same, r.ext (ex_wr hp)⟩
/-! ### what is read -/
theorem Ab.lst (A : Ab K ρ st H) {n : Nat} {ds : List D} {v : V} (h : lstAt st n = some ds) (r : Rep K ρ H (.ref n) v) : ∃ a vs, v = .ref a ∧ ρ[n]? = some a ∧ SqL K H a vs ∧ Reps K ρ H ds vs := by
  obtain ⟨a, ha, rfl⟩ := rep_ref.mp r
  unfold lstAt at h
  cases q : st[n]? with
  | none => rw [q] at h; cases h
  | some o =>
    rw [q] at h
    obtain ⟨b, hb, ro⟩ := A.get q
    rw [ha] at hb; cases hb
    cases o with
    | lst xs => cases h; obtain ⟨vs, h1, h2⟩ := ro; exact ⟨a, vs, rfl, ha, .inl (.inl h1), h2⟩
    | fls xs =>
      cases h; obtain ⟨vs, h1, h2⟩ := ro
      refine ⟨a, vs, rfl, ha, ?_, h2⟩
      rcases h1 with ⟨o, h1⟩ | h1
      · exact .inl (.inr ⟨o, h1⟩)
      · exact .inr h1
    | _ => cases h
theorem Ab.mlst (A : Ab K ρ st H) {n : Nat} {ds : List D} {v : V} (h : st[n]? = some (.lst ds)) (r : Rep K ρ H (.ref n) v) : ∃ a vs, v = .ref a ∧ ρ[n]? = some a ∧ H a = some (.lst vs) ∧ Reps K ρ H ds vs := by
  obtain ⟨a, ha, rfl⟩ := rep_ref.mp r
  obtain ⟨b, hb, ro⟩ := A.get h
  rw [ha] at hb; cases hb
  obtain ⟨vs, h1, h2⟩ := ro
  exact ⟨a, vs, rfl, ha, h1, h2⟩
theorem Ab.seq (A : Ab K ρ st H) {d : D} {ds : List D} {v : V} (h : seqOf st d = some ds) (r : Rep K ρ H d v) : ∃ a vs, v = .ref a ∧ (SqL K H a vs ∨ SqT K H a vs) ∧ Reps K ρ H ds vs := by
  cases d with
  | tup xs => cases h; obtain ⟨a, vs, h1, h2, h3⟩ := rep_tup.mp r; exact ⟨a, vs, h1, .inr h2, h3⟩
  | ref n => obtain ⟨a, vs, h1, _, h2, h3⟩ := A.lst h r; exact ⟨a, vs, h1, .inl h2, h3⟩
  | _ => cases h
theorem Ab.tru (A : Ab K ρ st H) {d : D} {v : V} {t : Bool} (h : tru st d = some t) (r : Rep K ρ H d v) : TruV K v H t := by
  cases d with
  | non => cases rep_non.mp r; cases h; rfl
  | bl b => cases rep_bl.mp r; cases h; rfl
  | int i => cases rep_int.mp r; cases h; rfl
  | str x =>
    obtain ⟨rfl, hx⟩ := rep_str.mp r
    cases h
    exact ⟨by rw [sizeLine_eq]; exact hx, rfl⟩
  | tup xs =>
    cases h
    obtain ⟨a, vs, rfl, h2, h3⟩ := rep_tup.mp r
    refine .inr (.inl ⟨vs, h2, ?_⟩)
    cases xs with
    | nil => rw [reps_nil] at h3; subst h3; rfl
    | cons x xs => rw [reps_cons] at h3; obtain ⟨_, _, rfl, _⟩ := h3; rfl
  | ref n =>
    have h' : (lstAt st n).map (fun xs => !xs.isEmpty) = some t := h
    cases q : lstAt st n with
    | none => rw [q] at h'; cases h'
    | some xs =>
      rw [q] at h'
      cases h'
      obtain ⟨a, vs, rfl, _, h2, h3⟩ := A.lst q r
      refine .inl ⟨vs, h2, ?_⟩
      cases xs with
      | nil => rw [reps_nil] at h3; subst h3; rfl
      | cons x xs => rw [reps_cons] at h3; obtain ⟨_, _, rfl, _⟩ := h3; rfl

/-! ### dicts -/
section
variable {κ : Type} [DecidableEq κ]
def KvR (K : PySem.W.Frag) (ρ : List Addr) (H : Hp) (kvs : List (κ × D)) (vs : List (κ × V)) : Prop := vs.map (·.1) = kvs.map (·.1) ∧ Reps K ρ H (kvs.map (·.2)) (vs.map (·.2))
theorem KvR.nil : KvR K ρ H ([] : List (κ × D)) [] := ⟨rfl, reps_nil.mpr rfl⟩
theorem KvR.cons {k : κ} {d : D} {kvs : List (κ × D)} {v : V} {vs : List (κ × V)} (r : Rep K ρ H d v) (h : KvR K ρ H kvs vs) : KvR K ρ H ((k, d) :: kvs) ((k, v) :: vs) :=
  ⟨by rw [List.map_cons, List.map_cons, h.1], by rw [List.map_cons, List.map_cons]; exact reps_cons.mpr ⟨v, _, rfl, r, h.2⟩⟩
theorem KvR.cases {k : κ} {d : D} {kvs : List (κ × D)} {vs : List (κ × V)} (h : KvR K ρ H ((k, d) :: kvs) vs) : ∃ v us, vs = (k, v) :: us ∧ Rep K ρ H d v ∧ KvR K ρ H kvs us := by
  obtain ⟨h1, h2⟩ := h
  cases vs with
  | nil => cases h1
  | cons p us =>
    obtain ⟨k', v⟩ := p
    rw [List.map_cons, List.map_cons] at h1
    injection h1 with e1 e2
    have e1' : k' = k := e1
    subst e1'
    rw [List.map_cons, List.map_cons, reps_cons] at h2
    obtain ⟨v', r', e3, r1, r2⟩ := h2
    injection e3 with e4 e5
    have e4' : v = v' := e4
    subst e4'
    subst e5
    exact ⟨v, us, rfl, r1, e2, r2⟩
theorem KvR.nil_inv {vs : List (κ × V)} (h : KvR K ρ H ([] : List (κ × D)) vs) : vs = [] := by
  obtain ⟨h1, _⟩ := h
  cases vs with
  | nil => rfl
  | cons _ _ => cases h1
theorem KvR.length {kvs : List (κ × D)} {vs : List (κ × V)} (h : KvR K ρ H kvs vs) : kvs.length = vs.length := by
  have := congrArg List.length h.1
  simpa using this.symm
theorem KvR.ext {kvs : List (κ × D)} {vs : List (κ × V)} (h : KvR K ρ H kvs vs) (e : Ex ρ H ρ' H') : KvR K ρ' H' kvs vs := ⟨h.1, h.2.ext e⟩
theorem KvR.get (k : κ) : ∀ {kvs : List (κ × D)} {vs : List (κ × V)}, KvR K ρ H kvs vs → (dGet kvs k = none ∧ valV vs k = none) ∨ ∃ d v, dGet kvs k = some d ∧ valV vs k = some v ∧ Rep K ρ H d v
  | [], vs, h => by cases h.nil_inv; exact .inl ⟨rfl, rfl⟩
  | (j, d) :: kvs, vs, h => by
    obtain ⟨v, us, rfl, r, h'⟩ := h.cases
    by_cases e : j = k
    · exact .inr ⟨d, v, by simp [dGet, List.find?_cons, e], valV_pos e, r⟩
    · have e1 : dGet ((j, d) :: kvs) k = dGet kvs k := by simp [dGet, List.find?_cons, e]
      rw [e1, valV_neg e]
      exact KvR.get k h'
theorem KvR.map_put (k : κ) {d : D} {v : V} (r : Rep K ρ H d v) : ∀ {kvs : List (κ × D)} {vs : List (κ × V)}, KvR K ρ H kvs vs → KvR K ρ H (kvs.map fun kv => if kv.1 = k then (kv.1, d) else kv) (vs.map fun kv => if kv.1 = k then (kv.1, v) else kv)
  | [], vs, h => by cases h.nil_inv; exact .nil
  | (j, d0) :: kvs, vs, h => by
    obtain ⟨v0, us, rfl, r0, h'⟩ := h.cases
    have ih := KvR.map_put k r h'
    rw [List.map_cons, List.map_cons]
    by_cases e : j = k
    · rw [if_pos e, if_pos e]; exact .cons r ih
    · rw [if_neg e, if_neg e]; exact .cons r0 ih
theorem KvR.snoc {k : κ} {d : D} {v : V} (r : Rep K ρ H d v) {kvs : List (κ × D)} {vs : List (κ × V)} (h : KvR K ρ H kvs vs) : KvR K ρ H (kvs ++ [(k, d)]) (vs ++ [(k, v)]) :=
  ⟨by rw [List.map_append, List.map_append, h.1]; rfl, by rw [List.map_append, List.map_append]; exact h.2.append (reps_cons.mpr ⟨v, [], rfl, r, reps_nil.mpr rfl⟩)⟩
theorem KvR.any (k : κ) : ∀ {kvs : List (κ × D)} {vs : List (κ × V)}, KvR K ρ H kvs vs → (kvs.any fun kv => decide (kv.1 = k)) = (vs.any fun kv => decide (kv.1 = k))
  | [], vs, h => by cases h.nil_inv; rfl
  | (j, d0) :: kvs, vs, h => by
    obtain ⟨v0, us, rfl, r0, h'⟩ := h.cases
    rw [List.any_cons, List.any_cons, KvR.any k h']
theorem KvR.put (k : κ) {d : D} {v : V} (r : Rep K ρ H d v) {kvs : List (κ × D)} {vs : List (κ × V)} (h : KvR K ρ H kvs vs) : KvR K ρ H (dPut kvs k d) (putK vs k v) := by
  unfold dPut putK
  rw [h.any k]
  split
  · exact h.map_put k r
  · exact h.snoc r
end
theorem key_rep {y : D} {k : Key} {u : V} (h : keyOf y = some k) (r : Rep K ρ H y u) : u = kV k := by
  cases y with
  | int i => cases h; exact rep_int.mp r
  | str x => cases h; exact (rep_str.mp r).1
  | _ => cases h
theorem keys_rep : ∀ {ks : List D} {k : List Key} {us : List V}, keysOf ks = some k → Reps K ρ H ks us → us = k.map kV
  | [], k, us, h, r => by cases h; exact reps_nil.mp r
  | d :: ds, k, us, h, r => by
    unfold keysOf at h
    split at h
    · rename_i k0 ks0 e1 e2
      cases h
      obtain ⟨v, r', rfl, r1, r2⟩ := reps_cons.mp r
      rw [key_rep e1 r1, keys_rep e2 r2]; rfl
    · cases h
theorem Ab.dK (A : Ab K ρ st H) {n : Nat} {kvs : List (Key × D)} {v : V} (h : st[n]? = some (.dK kvs)) (r : Rep K ρ H (.ref n) v) : ∃ a vs, v = .ref a ∧ ρ[n]? = some a ∧ H a = some (.dK vs) ∧ KvR K ρ H kvs vs := by
  obtain ⟨a, ha, rfl⟩ := rep_ref.mp r
  obtain ⟨b, hb, ro⟩ := A.get h
  rw [ha] at hb; cases hb
  obtain ⟨vs, h1, h2, h3⟩ := ro
  exact ⟨a, vs, rfl, ha, h1, h2, h3⟩
theorem Ab.dT (A : Ab K ρ st H) {n : Nat} {kvs : List (List Key × D)} {v : V} (h : st[n]? = some (.dT kvs)) (r : Rep K ρ H (.ref n) v) : ∃ a vs, v = .ref a ∧ ρ[n]? = some a ∧ H a = some (.dT vs) ∧ KvR K ρ H kvs vs := by
  obtain ⟨a, ha, rfl⟩ := rep_ref.mp r
  obtain ⟨b, hb, ro⟩ := A.get h
  rw [ha] at hb; cases hb
  obtain ⟨vs, h1, h2, h3⟩ := ro
  exact ⟨a, vs, rfl, ha, h1, h2, h3⟩
/-! ### slots -/
theorem Evn.ext (E : Evn K ρ H en σ) (e : Ex ρ H ρ' H') : Evn K ρ' H' en σ := ⟨E.len, fun i d h => by
  obtain ⟨v, h1, h2⟩ := E.at_ i d h
  exact ⟨v, h1, h2.ext e⟩⟩
theorem Evn.set (E : Evn K ρ H en σ) (i : Nat) {d : D} {v : V} (r : Rep K ρ H d v) : Evn K ρ H (en.set i (some d)) (σ.set i (some v)) := by
  refine ⟨by rw [List.length_set, List.length_set]; exact E.len, fun j e h => ?_⟩
  by_cases hj : i = j
  · subst hj
    have hl : i < en.length := by
      have := (List.getElem?_eq_some_iff.mp h).1
      rwa [List.length_set] at this
    rw [List.getElem?_set_self hl] at h
    cases h
    exact ⟨v, by rw [List.getElem?_set_self (by rw [← E.len]; exact hl)], r⟩
  · rw [List.getElem?_set_ne hj] at h ⊢
    exact E.at_ j e h
theorem wipe_at {σ : L2.St} {i : Nat} : ∀ {vs : List Nat}, i ∉ vs → (wipe σ vs)[i]? = σ[i]?
  | [], _ => rfl
  | v :: vs, h => by
    rw [List.mem_cons, not_or] at h
    unfold wipe
    rw [List.getElem?_set_ne (fun e => h.1 e.symm)]
    exact wipe_at h.2
theorem wipeE_some {en : En} {i : Nat} {x : D} : ∀ {vs : List Nat}, (wipeE en vs)[i]? = some (some x) → en[i]? = some (some x) ∧ i ∉ vs
  | [], h => ⟨h, by simp⟩
  | v :: vs, h => by
    unfold wipeE at h
    by_cases hi : v = i
    · subst hi
      by_cases hv : v < (wipeE en vs).length
      · rw [List.getElem?_set_self hv] at h; cases h
      · rw [List.getElem?_eq_none (by simpa using hv)] at h; cases h
    · rw [List.getElem?_set_ne hi] at h
      obtain ⟨h1, h2⟩ := wipeE_some h
      exact ⟨h1, by simp only [List.mem_cons, not_or]; exact ⟨fun e => hi e.symm, h2⟩⟩
theorem wipeE_length (en : En) : ∀ vs : List Nat, (wipeE en vs).length = en.length
  | [] => rfl
  | v :: vs => by unfold wipeE; rw [List.length_set, wipeE_length en vs]
theorem Evn.wipe (E : Evn K ρ H en σ) (vs : List Nat) : Evn K ρ H (wipeE en vs) (L2.wipe σ vs) := by
  refine ⟨by rw [wipeE_length, wipe_length]; exact E.len, fun i d h => ?_⟩
  obtain ⟨h1, h2⟩ := wipeE_some h
  obtain ⟨v, q1, q2⟩ := E.at_ i d h1
  exact ⟨v, by rw [wipe_at h2]; exact q1, q2⟩
/-- fields, by name -/
def RepF (K : PySem.W.Frag) (ρ : List Addr) (H : Hp) (fs : List (Str × D)) (vs : List (Str × V)) : Prop := ∀ f d, fs.lookup f = some d → ∃ v, vs.lookup f = some v ∧ Rep K ρ H d v
theorem RepF.ext {fs : List (Str × D)} {vs : List (Str × V)} (h : RepF K ρ H fs vs) (e : Ex ρ H ρ' H') : RepF K ρ' H' fs vs := fun f d q => by
  obtain ⟨v, h1, h2⟩ := h f d q
  exact ⟨v, h1, h2.ext e⟩
end Q3

set_option Elab.async false
set_option linter.all false
set_option maxRecDepth 100000
set_option maxHeartbeats 4000000
/-! Q3c: operators by values. -/
namespace Q3
open PySem PySem.Spec PyProof.Rows L2

def Out (K : PySem.W.Frag) (ρ : List Addr) (H : Hp) (Q' : KD) (Q : VK) : Prop := ∀ d st' v H' ρ', Ab K ρ' st' H' → Ex ρ H ρ' H' → Rep K ρ' H' d v → Q' d st' → Q v H'
section
variable {K : PySem.W.Frag} {ρ : List Addr} {H : Hp} {st : Sto} {Q' : KD} {Q : VK}
theorem Out.keep (O : Out K ρ H Q' Q) (A : Ab K ρ st H) {d : D} {v : V} (r : Rep K ρ H d v) (h : Q' d st) : Q v H := O d st v H ρ A Ex.refl r h
theorem Out.newL (O : Out K ρ H Q' Q) (A : Ab K ρ st H) {ds : List D} {vs : List V} (r : Reps K ρ H ds vs) (h : Q' (.ref st.length) (st ++ [.lst ds])) : ∀ p, H p = none → Q (.ref p) (upd H p (.lst vs)) := fun p hp =>
  O _ _ _ _ _ (A.newL hp r) (ex_new hp [p]) (rep_ref.mpr ⟨p, by rw [← A.len, List.getElem?_append_right (Nat.le_refl _), Nat.sub_self]; rfl, rfl⟩) h
theorem Out.newT (O : Out K ρ H Q' Q) (A : Ab K ρ st H) {ds : List D} {vs : List V} (r : Reps K ρ H ds vs) (h : Q' (.tup ds) st) : ∀ p, H p = none → Q (.ref p) (upd H p (.tup vs)) := fun p hp => by
  have e : Ex ρ H ρ (upd H p (.tup vs)) := ex_new0 hp
  exact O _ _ _ _ _ (A.track hp) e (rep_tup.mpr ⟨p, vs, rfl, .inl (.inl upd_same), r.ext e⟩) h
theorem Out.setL (O : Out K ρ H Q' Q) (A : Ab K ρ st H) {n : Nat} {p : Addr} {vs us : List V} {ds ds0 : List D} {d : D} {v : V} (hn : st[n]? = some (.lst ds0)) (hr : ρ[n]? = some p) (hp : H p = some (.lst us)) (r : Reps K ρ H ds vs)
    (rv : Rep K ρ H d v) (h : Q' d (st.set n (.lst ds))) : Q v (upd H p (.lst vs)) := by
  have e : Ex ρ H ρ (upd H p (.lst vs)) := ex_wr hp
  exact O _ _ _ _ _ (A.setL hn hr hp r) e (rv.ext e) h
theorem Lm_line {n : Nat} (h : n ≤ Lm) : n ≤ sizeLine := by rw [sizeLine_eq]; exact h
theorem Lm_lt {n : Nat} (h : n < Lm) : n < sizeLine := by rw [sizeLine_eq]; exact h
end

/-! ### plain data -/
section
variable {K : PySem.W.Frag} {ρ : List Addr} {H : Hp} {st : Sto}
theorem mapM_dp {f : D → Option PyData} : ∀ {xs : List D} {vs : List V} {ps : List PyData}, (∀ x v p, f x = some p → Rep K ρ H x v → Dp K H v p) → xs.mapM f = some ps → Reps K ρ H xs vs → DpAll K H vs ps
  | [], vs, ps, _, h, r => by
    rw [reps_nil] at r; subst r
    have e : ps = [] := by simpa using h.symm
    subst e
    exact .nil
  | x :: xs, vs, ps, hf, h, r => by
    rw [reps_cons] at r
    obtain ⟨v, r', rfl, h2, h3⟩ := r
    rw [List.mapM_cons] at h
    cases q : f x with
    | none => rw [q] at h; cases h
    | some p =>
      rw [q] at h
      cases q' : xs.mapM f with
      | none => rw [q'] at h; cases h
      | some qs =>
        rw [q'] at h
        have e : p :: qs = ps := Option.some.inj h
        subst e
        exact .cons (hf x v p q h2) (mapM_dp hf q' h3)
theorem toP_dp (A : Ab K ρ st H) : ∀ (n : Nat) (d : D) (v : V) (p : PyData), toP n st d = some p → Rep K ρ H d v → Dp K H v p
  | 0, _, _, _, h, _ => by cases h
  | n + 1, d, v, p, h, r => by
    cases d with
    | non => cases h; cases rep_non.mp r; exact .non
    | bl b => cases h; cases rep_bl.mp r; exact .bl b
    | int i => cases h; cases rep_int.mp r; exact .int i
    | str x => cases h; obtain ⟨rfl, _⟩ := rep_str.mp r; exact .str x
    | tup xs =>
      have h' : (xs.mapM (toP n st)).map PyData.tuple = some p := h
      obtain ⟨a, vs, rfl, h2, h3⟩ := rep_tup.mp r
      cases q : xs.mapM (toP n st) with
      | none => rw [q] at h'; cases h'
      | some ps =>
        rw [q] at h'
        cases h'
        exact .tup h2 (mapM_dp (fun x v p => toP_dp A n x v p) q h3)
    | ref k =>
      have h' : (match lstAt st k with
        | some xs => (xs.mapM (toP n st)).map PyData.list
        | none => none) = some p := h
      cases q0 : lstAt st k with
      | none => rw [q0] at h'; cases h'
      | some xs =>
        rw [q0] at h'
        obtain ⟨a, vs, rfl, _, h2, h3⟩ := A.lst q0 r
        have h'' : (xs.mapM (toP n st)).map PyData.list = some p := h'
        cases q : xs.mapM (toP n st) with
        | none => rw [q] at h''; cases h''
        | some ps =>
          rw [q] at h''
          cases h''
          exact .lst h2 (mapM_dp (fun x v p => toP_dp A n x v p) q h3)
theorem flat_of {d : D} {v : V} (h : flat d = true) (r : Rep K ρ H d v) : flatV v = true := by
  cases d with
  | non => cases rep_non.mp r; rfl
  | bl b => cases rep_bl.mp r; rfl
  | int i => cases rep_int.mp r; rfl
  | str x => obtain ⟨rfl, _⟩ := rep_str.mp r; rfl
  | _ => cases h
theorem flats_of : ∀ {ds : List D} {vs : List V}, ds.all flat = true → Reps K ρ H ds vs → vs.all flatV = true
  | [], vs, _, r => by rw [reps_nil] at r; subst r; rfl
  | d :: ds, vs, h, r => by
    rw [reps_cons] at r
    obtain ⟨v, r', rfl, h2, h3⟩ := r
    rw [List.all_cons, Bool.and_eq_true] at h ⊢
    exact ⟨flat_of h.1 h2, flats_of h.2 h3⟩
theorem eqF_of {d e : D} {v u : V} (h1 : flat d = true) (h2 : flat e = true) (r1 : Rep K ρ H d v) (r2 : Rep K ρ H e u) : eqV v u = eqF d e := by
  cases d with
  | non => cases rep_non.mp r1; cases e with
    | non => cases rep_non.mp r2; rfl
    | bl b => cases rep_bl.mp r2; rfl
    | int i => cases rep_int.mp r2; rfl
    | str x => obtain ⟨rfl, _⟩ := rep_str.mp r2; rfl
    | _ => cases h2
  | bl b => cases rep_bl.mp r1; cases e with
    | non => cases rep_non.mp r2; rfl
    | bl b => cases rep_bl.mp r2; rfl
    | int i => cases rep_int.mp r2; rfl
    | str x => obtain ⟨rfl, _⟩ := rep_str.mp r2; rfl
    | _ => cases h2
  | int i => cases rep_int.mp r1; cases e with
    | non => cases rep_non.mp r2; rfl
    | bl b => cases rep_bl.mp r2; rfl
    | int i => cases rep_int.mp r2; rfl
    | str x => obtain ⟨rfl, _⟩ := rep_str.mp r2; rfl
    | _ => cases h2
  | str x => obtain ⟨rfl, _⟩ := rep_str.mp r1; cases e with
    | non => cases rep_non.mp r2; rfl
    | bl b => cases rep_bl.mp r2; rfl
    | int i => cases rep_int.mp r2; rfl
    | str x => obtain ⟨rfl, _⟩ := rep_str.mp r2; rfl
    | _ => cases h2
  | _ => cases h1
theorem anyF_of {e : D} {u : V} (h2 : flat e = true) (r2 : Rep K ρ H e u) : ∀ {ds : List D} {vs : List V}, ds.all flat = true → Reps K ρ H ds vs → inV u vs = ds.any fun z => eqF z e
  | [], vs, _, r => by rw [reps_nil] at r; subst r; rfl
  | d :: ds, vs, h, r => by
    rw [reps_cons] at r
    obtain ⟨v, r', rfl, h3, h4⟩ := r
    rw [List.all_cons, Bool.and_eq_true] at h
    show (eqV v u || inV u r') = (eqF d e || ds.any fun z => eqF z e)
    rw [eqF_of h.1 h2 h3 r2, anyF_of h2 r2 h.2 h4]
end

/-! ### the operators -/
def Op.py : Op → Operator
  | .add => .Add | .sub => .Sub | .mul => .Mult | .fdiv => .FloorDiv | .mod => .Mod | .pow => .Pow
def Cm.py : Cm → CmpOp
  | .lt => .Lt | .le => .LtE | .gt => .Gt | .ge => .GtE | .eq => .Eq | .ne => .NotEq | .isin => .In | .notin => .NotIn | .isn => .Is | .isnt => .IsNot
def rBinD (K : PySem.W.Frag) (o : Op) : R2 := fun x y H Q => ∃ ρ st d e Q', Ab K ρ st H ∧ Rep K ρ H d x ∧ Rep K ρ H e y ∧ wBin o d e st Q' ∧ Out K ρ H Q' Q
section
variable {X : Cx}
theorem ob_add {pins : List (Addr × Obj)} {s : Shared} {σ : L2.St} {H : Hp} {x y : V} {v u : Value} {Q : VK} {ρ : List Addr} {st : Sto} {d e : D} {Q' : KD} (I : Inv X pins σ H s) (rx : RelV x v) (ry : RelV y u)
    (A : Ab X.K ρ st H) (r1 : Rep X.K ρ H d x) (r2 : Rep X.K ρ H e y) (h : wAdd d e st Q') (O : Out X.K ρ H Q' Q) : wpAny (model X.prog X.w) X.A (binaryOp .Add v u) (EP X pins σ Q) X.xe s := by
  cases d with
  | int i =>
    cases e with
    | int j =>
      cases rep_int.mp r1; cases rep_int.mp r2
      exact op_add pins s σ H _ _ v u Q I rx ry ⟨i, j, rfl, rfl, O.keep A (rep_int.mpr rfl) h⟩
    | _ => exact False.elim h
  | str a =>
    cases e with
    | str b =>
      obtain ⟨rfl, _⟩ := rep_str.mp r1
      obtain ⟨rfl, _⟩ := rep_str.mp r2
      obtain ⟨h1, h2⟩ : a.length + b.length ≤ Lm ∧ Q' (.str (a ++ b)) st := h
      refine op_add_str pins s σ H _ _ v u Q I rx ry ⟨a, b, rfl, rfl, Lm_line h1, O.keep A (rep_str.mpr ⟨rfl, ?_⟩) h2⟩
      have e : (a ++ b).length = a.length + b.length := by show (a.cps ++ b.cps).size = _; exact Array.size_append
      rw [e]; exact h1
    | _ => exact False.elim h
  | tup xs =>
    cases e with
    | tup ys =>
      obtain ⟨a, vs, rfl, s1, q1⟩ := rep_tup.mp r1
      obtain ⟨b, us, rfl, s2, q2⟩ := rep_tup.mp r2
      obtain ⟨h1, h2⟩ : xs.length + ys.length ≤ Lm ∧ Q' (.tup (xs ++ ys)) st := h
      have l1 := q1.length
      have l2 := q2.length
      refine op_catA pins s σ H _ _ v u Q I rx ry ⟨a, b, vs, us, rfl, rfl, s1, s2, Lm_line (by omega), fun z => ?_, fun _ z => ?_, fun _ _ => O.newT A (q1.append q2) h2⟩
      · subst z
        have e0 : xs = [] := List.length_eq_zero_iff.mp (by simpa using l1)
        subst e0
        exact O.keep A r2 h2
      · subst z
        have e0 : ys = [] := List.length_eq_zero_iff.mp (by simpa using l2)
        subst e0
        rw [List.append_nil] at h2
        exact O.keep A r1 h2
    | _ => exact False.elim h
  | ref a =>
    cases e with
    | ref b =>
      have h' : (match st[a]?, st[b]? with
        | some (.lst xs), some (.lst ys) => xs.length + ys.length ≤ Lm ∧ Q' (.ref st.length) (st ++ [.lst (xs ++ ys)])
        | _, _ => False) := h
      split at h'
      · rename_i xs ys e1 e2
        obtain ⟨p, vs, rfl, _, hp, q1⟩ := A.mlst e1 r1
        obtain ⟨p', us, rfl, _, hp', q2⟩ := A.mlst e2 r2
        have l1 := q1.length
        have l2 := q2.length
        exact op_cat pins s σ H _ _ v u Q I rx ry ⟨p, p', vs, us, rfl, rfl, hp, hp', Lm_line (by omega), O.newL A (q1.append q2) h'.2⟩
      · exact False.elim h'
    | _ => exact False.elim h
  | _ => exact False.elim h
theorem ob_bin (o : Op) : OpR X (binaryOp o.py) (rBinD X.K o) := by
  intro pins s σ H x y v u Q I rx ry hh
  obtain ⟨ρ, st, d, e, Q', A, r1, r2, h, O⟩ := hh
  cases o with
  | add => exact ob_add I rx ry A r1 r2 h O
  | sub =>
    cases d with
    | int i =>
      cases e with
      | int j =>
        cases rep_int.mp r1; cases rep_int.mp r2
        exact op_sub pins s σ H _ _ v u Q I rx ry ⟨i, j, rfl, rfl, O.keep A (rep_int.mpr rfl) h⟩
      | _ => exact False.elim h
    | _ => exact False.elim h
  | mul =>
    cases d with
    | int i =>
      cases e with
      | int j =>
        cases rep_int.mp r1; cases rep_int.mp r2
        obtain ⟨h1, h2⟩ : (CMul i j ∨ CMulW i j) ∧ Q' (.int (i * j)) st := h
        rcases h1 with h1 | h1
        · exact op_mul pins s σ H _ _ v u Q I rx ry ⟨i, j, rfl, rfl, h1, O.keep A (rep_int.mpr rfl) h2⟩
        · exact op_mulW pins s σ H _ _ v u Q I rx ry ⟨i, j, rfl, rfl, h1, O.keep A (rep_int.mpr rfl) h2⟩
      | _ => exact False.elim h
    | ref a =>
      cases e with
      | int k =>
        have h' : (match st[a]? with
          | some (.lst xs) => (-(2 ^ 63) ≤ k ∧ k < 2 ^ 63 ∧ xs.length * k.toNat ≤ Lm) ∧ Q' (.ref st.length) (st ++ [.lst (List.replicate k.toNat xs).flatten])
          | _ => False) := h
        split at h'
        · rename_i xs e1
          obtain ⟨p, vs, rfl, _, hp, q1⟩ := A.mlst e1 r1
          cases rep_int.mp r2
          have l1 := q1.length
          obtain ⟨⟨h1, h2, h3⟩, h4⟩ := h'
          exact op_rep pins s σ H _ _ v u Q I rx ry ⟨p, k, vs, rfl, rfl, hp, h1, h2, Lm_line (by rw [← l1]; exact h3), O.newL A (q1.flat_rep _) h4⟩
        · exact False.elim h'
      | _ => exact False.elim h
    | _ => exact False.elim h
  | fdiv =>
    cases d with
    | int i =>
      cases e with
      | int j =>
        cases rep_int.mp r1; cases rep_int.mp r2
        obtain ⟨h1, h2⟩ := mu_and (show Mu (dvOk j) (Q' (.int (i / j)) st) from h)
        rcases dvOk_ok (i := i) h1 with h1 | h1
        · exact op_fdiv pins s σ H _ _ v u Q I rx ry ⟨i, j, rfl, rfl, h1, O.keep A (rep_int.mpr rfl) h2⟩
        · exact op_fdivW pins s σ H _ _ v u Q I rx ry ⟨i, j, rfl, rfl, h1, O.keep A (rep_int.mpr rfl) h2⟩
      | _ => exact False.elim h
    | _ => exact False.elim h
  | mod =>
    cases d with
    | int i =>
      cases e with
      | int j =>
        cases rep_int.mp r1; cases rep_int.mp r2
        obtain ⟨h1, h2⟩ := mu_and (show Mu (decide (0 < j)) (Q' (.int (i % j)) st) from h)
        have h1 := of_decide_eq_true h1
        exact op_mod pins s σ H _ _ v u Q I rx ry ⟨i, j, rfl, rfl, h1, O.keep A (rep_int.mpr rfl) h2⟩
      | _ => exact False.elim h
    | _ => exact False.elim h
  | pow =>
    cases d with
    | int i =>
      cases e with
      | int j =>
        cases rep_int.mp r1; cases rep_int.mp r2
        obtain ⟨h1, h2⟩ := mu_and (show Mu (powOk i j) (Q' (.int (i ^ j.toNat)) st) from h)
        have h1 := powOk_ok h1
        exact op_pow pins s σ H _ _ v u Q I rx ry ⟨i, j, rfl, rfl, h1, O.keep A (rep_int.mpr rfl) h2⟩
      | _ => exact False.elim h
    | _ => exact False.elim h

def rCmpD (K : PySem.W.Frag) (o : Cm) : R2 := fun x y H Q => ∃ ρ st d e Qb, Ab K ρ st H ∧ Rep K ρ H d x ∧ Rep K ρ H e y ∧ wCmp o d e st Qb ∧ ∀ t, Qb t st → Q (.bl t) H
/-- two sequences of one kind, one of them empty or of unlike lengths -/
theorem emC_inv {K : PySem.W.Frag} {ρ : List Addr} {st : Sto} {H : Hp} (A : Ab K ρ st H) {d e : D} {x y : V} {b : Bool} (h : emC st d e = some b) (r1 : Rep K ρ H d x) (r2 : Rep K ρ H e y) :
    ∃ p q vs us, x = .ref p ∧ y = .ref q ∧ ((SqT K H p vs ∧ SqT K H q us ∧ (vs = [] ∨ us = []) ∧ b = decide (vs.length = us.length)) ∨ (SqL K H p vs ∧ SqL K H q us ∧ ((vs.length ≠ us.length ∧ b = false) ∨ (vs = [] ∧ us = [] ∧ b = true)))) := by
  cases d with
  | tup ds =>
    cases e with
    | tup es =>
      obtain ⟨p, vs, rfl, s1, q1⟩ := rep_tup.mp r1
      obtain ⟨q, us, rfl, s2, q2⟩ := rep_tup.mp r2
      have l1 := q1.length
      have l2 := q2.length
      refine ⟨p, q, vs, us, rfl, rfl, .inl ⟨s1, s2, ?_⟩⟩
      cases ds with
      | nil =>
        have h' : some es.isEmpty = some b := h
        injection h' with h'
        have : vs = [] := List.length_eq_zero_iff.mp l1.symm
        subst this
        refine ⟨.inl rfl, ?_⟩
        rw [← h']
        cases es with
        | nil => rw [← l2]; rfl
        | cons _ _ => rw [← l2]; simp
      | cons d0 dr =>
        cases es with
        | nil =>
          have h' : some false = some b := h
          injection h' with h'
          have : us = [] := List.length_eq_zero_iff.mp l2.symm
          subst this
          refine ⟨.inr rfl, ?_⟩
          rw [← h', ← l1]; simp
        | cons _ _ => cases h
    | _ => cases ds <;> cases h
  | ref n =>
    cases e with
    | ref m =>
      have h' : (match lstAt st n, lstAt st m with
        | some xs, some ys => if xs.length = ys.length then (if xs.length = 0 then some true else none) else some false
        | _, _ => none) = some b := h
      split at h'
      · rename_i xs ys ex ey
        obtain ⟨p, vs, rfl, _, s1, q1⟩ := A.lst ex r1
        obtain ⟨q, us, rfl, _, s2, q2⟩ := A.lst ey r2
        have l1 := q1.length
        have l2 := q2.length
        refine ⟨p, q, vs, us, rfl, rfl, .inr ⟨s1, s2, ?_⟩⟩
        split at h'
        · rename_i e1
          split at h'
          · rename_i e2
            injection h' with h'
            exact .inr ⟨List.length_eq_zero_iff.mp (by omega), List.length_eq_zero_iff.mp (by omega), h'.symm⟩
          · cases h'
        · rename_i e1
          injection h' with h'
          exact .inl ⟨by omega, h'.symm⟩
      · cases h'
    | _ => cases h
  | _ => cases h
def EmR (X : Cx) (op : CmpOp) (g : Bool → Bool) : Prop := ∀ {pins : List (Addr × Obj)} {s : Shared} {σ : L2.St} {H : Hp} {x y : V} {v u : Value} {Q : VK} {ρ : List Addr} {st : Sto} {d e : D} {b : Bool}, Inv X pins σ H s → RelV x v → RelV y u →
    Ab X.K ρ st H → Rep X.K ρ H d x → Rep X.K ρ H e y → emC st d e = some b → Q (.bl (g b)) H → wpAny (model X.prog X.w) X.A (compareOp op v u) (EP X pins σ Q) X.xe s
theorem em_run {op : CmpOp} {g : Bool → Bool}
    (rT : ∀ {s : Shared} {l b : Addr} {i1 i2 : Array Value} {Q : Value → Shared → Prop}, s.heap.IsTuple l i1 → s.heap.IsTuple b i2 → (i1.size = 0 ∨ i2.size = 0) → Q (.bool (g (decide (i1.size = i2.size)))) s → wpAny (model X.prog X.w) X.A (compareOp op (.ref l) (.ref b)) Q X.xe s)
    (rL : ∀ {s : Shared} {l b : Addr} {i1 i2 : Array Value} {Q : Value → Shared → Prop}, s.heap.IsList l i1 → s.heap.IsList b i2 → (i1.size ≠ i2.size ∨ i1.size = 0 ∧ i2.size = 0) → Q (.bool (g (decide (i1.size = i2.size)))) s → wpAny (model X.prog X.w) X.A (compareOp op (.ref l) (.ref b)) Q X.xe s) : EmR X op g := by
  intro pins s σ H x y v u Q ρ st d e b I rx ry A r1 r2 h q
  obtain ⟨p, p', vs, us, rfl, rfl, hh⟩ := emC_inv A h r1 r2
  cases (show v = Value.ref p from rx)
  cases (show u = Value.ref p' from ry)
  rcases hh with ⟨s1, s2, hh, rfl⟩ | ⟨s1, s2, hh⟩
  · obtain ⟨i1, v1, t1, _⟩ := I.tuple s1
    obtain ⟨i2, v2, t2, _⟩ := I.tuple s2
    have l1 := v1.length
    have l2 := v2.length
    refine rT (show s.heap.IsTuple p i1.toArray from t1) (show s.heap.IsTuple p' i2.toArray from t2) ?_ ⟨.bl _, H, I, rfl, ?_⟩
    · rcases hh with rfl | rfl
      · exact .inl (by simpa using l1.symm)
      · exact .inr (by simpa using l2.symm)
    · rw [show decide (i1.toArray.size = i2.toArray.size) = decide (vs.length = us.length) by simp only [List.size_toArray, l1, l2]]
      exact q
  · obtain ⟨i1, v1, t1, _⟩ := I.list s1
    obtain ⟨i2, v2, t2, _⟩ := I.list s2
    have l1 := v1.length
    have l2 := v2.length
    have eb : b = decide (vs.length = us.length) := by
      rcases hh with ⟨z, rfl⟩ | ⟨rfl, rfl, rfl⟩
      · exact (decide_eq_false z).symm
      · rfl
    subst eb
    refine rL t1.isList t2.isList ?_ ⟨.bl _, H, I, rfl, ?_⟩
    · rcases hh with ⟨z, _⟩ | ⟨rfl, rfl, _⟩
      · exact .inl (by rw [List.size_toArray, List.size_toArray, ← l1, ← l2]; exact z)
      · exact .inr ⟨by simpa using l1.symm, by simpa using l2.symm⟩
    · rw [show decide (i1.toArray.size = i2.toArray.size) = decide (vs.length = us.length) by simp only [List.size_toArray, l1, l2]]
      exact q
theorem em_eq (hu : X.A.units < cLine) : EmR X .Eq id := em_run
  (fun {s l b i1 i2 Q} h1 h2 h q => PySem.SeqAt.eq_tupleAt (e := fun _ => true) h1 h2 hu (fun j j1 j2 => by omega) (by
    have : (List.range (min i1.size i2.size)).all (fun _ => true) = true := by rw [List.all_eq_true]; exact fun _ _ => rfl
    rw [this, Bool.true_and]
    have e : (i1.size == i2.size) = decide (i1.size = i2.size) := by rw [Bool.eq_iff_iff]; simp
    rw [e]; exact q))
  (fun {s l b i1 i2 Q} h1 h2 h q => by
    rcases h with h | ⟨h, h'⟩
    · refine PySem.SeqAt.eq_list_lengthsAt h1 h2 (by simpa using h) hu ?_
      rw [decide_eq_false h] at q; exact q
    · refine PySem.SeqAt.eq_listAt (e := fun _ => true) h1 h2 (by omega) hu (fun j j1 j2 => by omega) ?_
      rw [decide_eq_true (by omega)] at q
      rw [h]; exact q)
theorem em_ne (hu : X.A.units < cLine) : EmR X .NotEq not := em_run
  (fun {s l b i1 i2 Q} h1 h2 h q => PySem.SeqAt.RcNeAt.tuples (e := fun _ => true) h1 h2 hu (fun j j1 j2 => by omega) _ _ _ _ (by
    have : (List.range (min i1.size i2.size)).all (fun _ => true) = true := by rw [List.all_eq_true]; exact fun _ _ => rfl
    rw [this, Bool.true_and]
    have e : (i1.size == i2.size) = decide (i1.size = i2.size) := by rw [Bool.eq_iff_iff]; simp
    rw [e]; exact q))
  (fun {s l b i1 i2 Q} h1 h2 h q => by
    rcases h with h | ⟨h, h'⟩
    · refine PySem.SeqAt.RcNeAt.lists_lengths h1 h2 (by simpa using h) hu _ _ _ _ ?_
      rw [decide_eq_false h] at q; exact q
    · refine PySem.SeqAt.RcNeAt.lists (e := fun _ => true) h1 h2 (by omega) hu (fun j j1 j2 => by omega) _ _ _ _ ?_
      rw [decide_eq_true (by omega)] at q
      rw [h]; exact q)
/-- equality, both ways -/
theorem ob_eq {op : CmpOp} {g : Bool → Bool} (hu : X.A.units + 65 < cLine)
    (rule : OpR X (compareOp op) (fun x y H Q => scal x y = true ∧ Q (.bl (g (decide (x = y)))) H))
    (ruleD : OpR X (compareOp op) (fun x y H Q => ∃ d e, Dp X.K H x d ∧ Dp X.K H y e ∧ SeqAt.shaped d = true ∧ SeqAt.shaped e = true ∧ Q (.bl (g (PyData.eqv d e))) H))
    (ruleE : EmR X op g)
    {pins : List (Addr × Obj)} {s : Shared} {σ : L2.St} {H : Hp} {x y : V} {v u : Value} {Q : VK} {ρ : List Addr} {st : Sto} {d e : D} {Qb : Bool → Sto → Prop} (I : Inv X pins σ H s) (rx : RelV x v) (ry : RelV y u)
    (A : Ab X.K ρ st H) (r1 : Rep X.K ρ H d x) (r2 : Rep X.K ρ H e y) (h : wEq d e st (fun b => Qb (g b))) (O : ∀ t, Qb t st → Q (.bl t) H) : wpAny (model X.prog X.w) X.A (compareOp op v u) (EP X pins σ Q) X.xe s := by
  have gen : (∃ b, emC st d e = some b ∧ Qb (g b) st) ∨ (match toP fuelP st d, toP fuelP st e with
    | some p, some q => (SeqAt.shaped p = true ∧ SeqAt.shaped q = true) ∧ Qb (g (PyData.eqv p q)) st
    | _, _ => False) → wpAny (model X.prog X.w) X.A (compareOp op v u) (EP X pins σ Q) X.xe s := by
    intro h'
    rcases h' with ⟨b, e1, h'⟩ | h'
    · exact ruleE I rx ry A r1 r2 e1 (O _ h')
    split at h'
    · rename_i p q e1 e2
      exact ruleD pins s σ H x y v u Q I rx ry ⟨p, q, toP_dp A _ d x p e1 r1, toP_dp A _ e y q e2 r2, h'.1.1, h'.1.2, O _ h'.2⟩
    · exact False.elim h'
  cases d with
  | int i =>
    cases e with
    | int j =>
      cases rep_int.mp r1; cases rep_int.mp r2
      have h' : Qb (g (decide (i = j))) st := h
      refine rule pins s σ H _ _ v u Q I rx ry ⟨rfl, O _ ?_⟩
      rw [show decide (V.int i = V.int j) = decide (i = j) by rw [dec_int]; exact Bool.beq_eq_decide_eq i j]
      exact h'
    | _ => exact gen h
  | str i =>
    cases e with
    | str j =>
      obtain ⟨rfl, _⟩ := rep_str.mp r1; obtain ⟨rfl, _⟩ := rep_str.mp r2
      have h' : Qb (g (decide (i = j))) st := h
      refine rule pins s σ H _ _ v u Q I rx ry ⟨rfl, O _ ?_⟩
      rw [show decide (V.str i = V.str j) = decide (i = j) by simp]
      exact h'
    | _ => exact gen h
  | bl i =>
    cases e with
    | bl j =>
      cases rep_bl.mp r1; cases rep_bl.mp r2
      have h' : Qb (g (decide (i = j))) st := h
      refine rule pins s σ H _ _ v u Q I rx ry ⟨rfl, O _ ?_⟩
      rw [show decide (V.bl i = V.bl j) = decide (i = j) by simp]
      exact h'
    | _ => exact gen h
  | _ => exact gen h
theorem dic_of {K : PySem.W.Frag} {ρ : List Addr} {st : Sto} {H : Hp} (A : Ab K ρ st H) {x y : D} {v u : V} {o : Option D} (h : dicGet st x y = some o) (r1 : Rep K ρ H x v) (r2 : Rep K ρ H y u) :
    ∃ a r, v = .ref a ∧ DGet H a u r ∧ ((o = none ∧ r = none) ∨ ∃ d w, o = some d ∧ r = some w ∧ Rep K ρ H d w) := by
  cases x with
  | ref n =>
    have h' : (match st[n]? with
      | some (.dK kvs) => (keyOf y).map (dGet kvs)
      | _ => none) = some o := h
    split at h'
    · rename_i kvs e1
      rw [Option.map_eq_some_iff] at h'
      obtain ⟨k, hk, rfl⟩ := h'
      obtain ⟨a, vs, rfl, _, hp, q⟩ := A.dK e1 r1
      have ek := key_rep hk r2
      subst ek
      refine ⟨a, valV vs k, rfl, DGet.k hp, ?_⟩
      exact q.get k
    · cases h'
  | _ => cases h
theorem op_in_dict (hu : X.A.units + 1 < cLine) : OpR X (compareOp .In) (fun y x H Q => ∃ a o, x = .ref a ∧ DGet H a y o ∧ Q (.bl o.isSome) H) := by
  intro pins s σ H y x v u Q I ry rx ⟨a, o, ex, g, q⟩
  subst ex
  cases (show u = Value.ref a from rx)
  exact d_in hu I g ry fun s' J => ⟨.bl o.isSome, H, J, rfl, q⟩
theorem op_notin_dict (hu : X.A.units + 1 < cLine) : OpR X (compareOp .NotIn) (fun y x H Q => ∃ a o, x = .ref a ∧ DGet H a y o ∧ Q (.bl (!o.isSome)) H) := by
  intro pins s σ H y x v u Q I ry rx ⟨a, o, ex, g, q⟩
  subst ex
  cases (show u = Value.ref a from rx)
  exact d_notIn hu I g ry fun s' J => ⟨.bl (!o.isSome), H, J, rfl, q⟩
theorem ix_dict (hu : X.A.units + 1 < cLine) : IxR X (fun x y H Q => ∃ a v, x = .ref a ∧ DGet H a y (some v) ∧ Q v H) := by
  intro value slice pins s σ H x y v u Q I rx ry ⟨a, w, ex, g, q⟩ hs
  subst ex
  cases (show v = Value.ref a from rx)
  exact tail_any (dict_typeIs I g) PySem.F.slot_dict_getitem.lookup (d_getItem hu I g ry fun w' s' J r => ⟨w, H, J, r, q⟩) hs
theorem ob_in {op : CmpOp} {g : Bool → Bool}
    (r1' : OpR X (compareOp op) (fun x y H Q => ∃ (c : Nat) (z : Str), x = .str ⟨#[c]⟩ ∧ y = .str z ∧ Q (.bl (g (decide (c ∈ z.cps.toList)))) H))
    (r2' : OpR X (compareOp op) (fun x y H Q => ∃ i j, x = .str i ∧ y = .str j ∧ Q (.bl (g (!(Builtin.Str.occurrences j i 0 j.length 1).isEmpty))) H))
    (r3' : OpR X (compareOp op) (fun x y H Q => ∃ p xs, y = .ref p ∧ (SqL X.K H p xs ∨ SqT X.K H p xs) ∧ flatV x = true ∧ xs.all flatV = true ∧ Q (.bl (g (inV x xs))) H))
    (r4' : OpR X (compareOp op) (fun y x H Q => ∃ a o, x = .ref a ∧ DGet H a y o ∧ Q (.bl (g o.isSome)) H))
    {pins : List (Addr × Obj)} {s : Shared} {σ : L2.St} {H : Hp} {x y : V} {v u : Value} {Q : VK} {ρ : List Addr} {st : Sto} {d e : D} {Qb : Bool → Sto → Prop} (I : Inv X pins σ H s) (rx : RelV x v) (ry : RelV y u)
    (A : Ab X.K ρ st H) (r1 : Rep X.K ρ H d x) (r2 : Rep X.K ρ H e y) (h : wIn d e st (fun b => Qb (g b))) (O : ∀ t, Qb t st → Q (.bl t) H) : wpAny (model X.prog X.w) X.A (compareOp op v u) (EP X pins σ Q) X.xe s := by
  have gen : (match seqOf st e with
    | some ys => (flat d = true ∧ ys.all flat = true) ∧ Qb (g (ys.any fun z => eqF z d)) st
    | none => match dicGet st e d with
      | some o => Qb (g o.isSome) st
      | none => False) → wpAny (model X.prog X.w) X.A (compareOp op v u) (EP X pins σ Q) X.xe s := by
    intro h'
    split at h'
    · rename_i ys e1
      obtain ⟨p, vs, rfl, hs, q⟩ := A.seq e1 r2
      refine r3' pins s σ H _ _ v u Q I rx ry ⟨p, vs, rfl, hs, flat_of h'.1.1 r1, flats_of h'.1.2 q, O _ ?_⟩
      rw [anyF_of h'.1.1 r1 h'.1.2 q]
      exact h'.2
    · split at h'
      · rename_i o e1
        obtain ⟨a, r, rfl, gd, q⟩ := dic_of A e1 r2 r1
        refine r4' pins s σ H _ _ v u Q I rx ry ⟨a, r, rfl, gd, O _ ?_⟩
        rcases q with ⟨rfl, rfl⟩ | ⟨d', w, rfl, rfl, _⟩ <;> exact h'
      · exact False.elim h'
  cases d with
  | str a =>
    cases e with
    | str b =>
      obtain ⟨rfl, _⟩ := rep_str.mp r1; obtain ⟨rfl, _⟩ := rep_str.mp r2
      have h' : (match a.cps.toList with
        | [c] => Qb (g (decide (c ∈ b.cps.toList))) st
        | _ => Qb (g (!(Builtin.Str.occurrences b a 0 b.length 1).isEmpty)) st) := h
      split at h'
      · rename_i c e1
        have ea : a = ⟨#[c]⟩ := by
          obtain ⟨⟨l⟩⟩ := a
          simp at e1
          subst e1
          rfl
        subst ea
        exact r1' pins s σ H _ _ v u Q I rx ry ⟨c, b, rfl, rfl, O _ h'⟩
      · exact r2' pins s σ H _ _ v u Q I rx ry ⟨a, b, rfl, rfl, O _ h'⟩
    | _ => exact gen h
  | _ => exact gen h
theorem ob_cmp (hu : X.A.units + 65 < cLine) (o : Cm) : OpR X (compareOp o.py) (rCmpD X.K o) := by
  intro pins s σ H x y v u Q I rx ry hh
  obtain ⟨ρ, st, d, e, Qb, A, r1, r2, h, O⟩ := hh
  cases o with
  | eq => exact ob_eq (g := id) hu op_eq (op_eqD (by omega)) (em_eq (by omega)) I rx ry A r1 r2 h O
  | ne => exact ob_eq (g := not) hu op_ne (op_neD (by omega)) (em_ne (by omega)) I rx ry A r1 r2 h O
  | isin => exact ob_in (g := id) op_in_sign op_in_str (fun pins s σ H x y v u Q I rx ry ⟨p, xs, a, b, c, d, q⟩ => op_in_seq pins s σ H x y v u Q I rx ry ⟨p, xs, a, b, c, d, q⟩) (op_in_dict (by omega)) I rx ry A r1 r2 h O
  | notin => exact ob_in (g := not) op_notIn_sign op_notin_str (fun pins s σ H x y v u Q I rx ry ⟨p, xs, a, b, c, d, q⟩ => op_notIn_seq pins s σ H x y v u Q I rx ry ⟨p, xs, a, b, c, d, q⟩) (op_notin_dict (by omega)) I rx ry A r1 r2 h O
  | lt =>
    cases d with
    | int i =>
      cases e with
      | int j => cases rep_int.mp r1; cases rep_int.mp r2; exact op_lt pins s σ H _ _ v u Q I rx ry ⟨i, j, rfl, rfl, O _ h⟩
      | _ => exact False.elim h
    | str i =>
      cases e with
      | str j =>
        obtain ⟨rfl, _⟩ := rep_str.mp r1; obtain ⟨rfl, _⟩ := rep_str.mp r2
        exact op_lt_str pins s σ H _ _ v u Q I rx ry ⟨i, j, rfl, rfl, O _ h⟩
      | _ => exact False.elim h
    | _ => exact False.elim h
  | le =>
    cases d with
    | int i =>
      cases e with
      | int j => cases rep_int.mp r1; cases rep_int.mp r2; exact op_le pins s σ H _ _ v u Q I rx ry ⟨i, j, rfl, rfl, O _ h⟩
      | _ => exact False.elim h
    | _ => exact False.elim h
  | gt =>
    cases d with
    | int i =>
      cases e with
      | int j => cases rep_int.mp r1; cases rep_int.mp r2; exact op_gt pins s σ H _ _ v u Q I rx ry ⟨i, j, rfl, rfl, O _ h⟩
      | _ => exact False.elim h
    | _ => exact False.elim h
  | ge =>
    cases d with
    | int i =>
      cases e with
      | int j => cases rep_int.mp r1; cases rep_int.mp r2; exact op_ge pins s σ H _ _ v u Q I rx ry ⟨i, j, rfl, rfl, O _ h⟩
      | _ => exact False.elim h
    | _ => exact False.elim h
  | isn =>
    have ey : e = .non := by cases e <;> first | rfl | exact (by cases d <;> exact False.elim h)
    subst ey
    cases rep_non.mp r2
    refine op_isN pins s σ H _ _ v u Q I rx ry ⟨rfl, O _ ?_⟩
    cases d with
    | non => cases rep_non.mp r1; exact h
    | bl b => cases rep_bl.mp r1; exact h
    | int i => cases rep_int.mp r1; exact h
    | str z => obtain ⟨rfl, _⟩ := rep_str.mp r1; exact h
    | tup z => obtain ⟨_, _, rfl, _⟩ := rep_tup.mp r1; exact h
    | ref z => obtain ⟨_, _, rfl⟩ := rep_ref.mp r1; exact h
  | isnt =>
    have ey : e = .non := by cases e <;> first | rfl | exact (by cases d <;> exact False.elim h)
    subst ey
    cases rep_non.mp r2
    refine op_notN pins s σ H _ _ v u Q I rx ry ⟨rfl, O _ ?_⟩
    cases d with
    | non => cases rep_non.mp r1; exact h
    | bl b => cases rep_bl.mp r1; exact h
    | int i => cases rep_int.mp r1; exact h
    | str z => obtain ⟨rfl, _⟩ := rep_str.mp r1; exact h
    | tup z => obtain ⟨_, _, rfl, _⟩ := rep_tup.mp r1; exact h
    | ref z => obtain ⟨_, _, rfl⟩ := rep_ref.mp r1; exact h

/-! ### subscripts, slices -/
def rIxD (K : PySem.W.Frag) : R2 := fun x y H Q => ∃ ρ st d e Q', Ab K ρ st H ∧ Rep K ρ H d x ∧ Rep K ρ H e y ∧ wIx d e st Q' ∧ Out K ρ H Q' Q
theorem atI_rep {K : PySem.W.Frag} {ρ : List Addr} {H : Hp} {xs : List D} {vs : List V} {i : Int} {d : D} (q : Reps K ρ H xs vs) (h : atI xs i = some d) : ∃ v, atI vs i = some v ∧ Rep K ρ H d v := by
  unfold atI at h ⊢
  rw [← q.length]
  cases e : ixN xs.length i with
  | none => rw [e] at h; cases h
  | some j =>
    rw [e] at h
    exact q.get h
theorem ob_ix (hu : X.A.units + 1 < cLine) : IxR X (rIxD X.K) := by
  intro value slice pins s σ H x y v u Q I rx ry hh hs
  obtain ⟨ρ, st, d, e, Q', A, r1, r2, h, O⟩ := hh
  have dic : (match dicGet st d e with
        | some (some d) => Q' d st
        | _ => False) → wpAny (model X.prog X.w) X.A (subscriptTail value slice v u) (EP X pins σ Q) X.xe s := by
    intro h'
    split at h'
    · rename_i d' e1
      obtain ⟨a, r, rfl, gd, q⟩ := dic_of A e1 r1 r2
      rcases q with ⟨z, _⟩ | ⟨d0, w, z, rfl, rw'⟩
      · cases z
      · cases z
        exact ix_dict hu value slice pins s σ H _ _ v u Q I rx ry ⟨a, w, rfl, gd, O.keep A rw' h'⟩ hs
    · exact False.elim h'
  cases e with
  | int i =>
    cases rep_int.mp r2
    have gen : (match seqOf st d with
      | some xs => match atI xs i with
        | some d => Q' d st
        | none => False
      | none => match dicGet st d (.int i) with
        | some (some d) => Q' d st
        | _ => False) → wpAny (model X.prog X.w) X.A (subscriptTail value slice v u) (EP X pins σ Q) X.xe s := by
      intro h'
      split at h'
      · rename_i xs e1
        split at h'
        · rename_i d' e2
          obtain ⟨p, vs, rfl, hq, q⟩ := A.seq e1 r1
          obtain ⟨z, hz, rz⟩ := atI_rep q e2
          rcases hq with hq | hq
          · exact ix_list value slice pins s σ H _ _ v u Q I rx ry ⟨p, vs, i, z, rfl, rfl, hq, hz, O.keep A rz h'⟩ hs
          · exact ix_tup value slice pins s σ H _ _ v u Q I rx ry ⟨p, vs, i, z, rfl, rfl, hq, hz, O.keep A rz h'⟩ hs
        · exact False.elim h'
      · exact dic h'
    cases d with
    | str z =>
      obtain ⟨rfl, hz⟩ := rep_str.mp r1
      have h' : (match atI z.cps.toList i with
        | some c => Q' (.str ⟨#[c]⟩) st
        | none => False) := h
      split at h'
      · rename_i c e1
        exact ix_str value slice pins s σ H _ _ v u Q I rx ry ⟨z, i, c, rfl, rfl, Lm_line hz, e1, O.keep A (rep_str.mpr ⟨rfl, (by show (1 : Nat) ≤ Lm; decide)⟩) h'⟩ hs
      · exact False.elim h'
    | _ => exact gen h
  | str k => exact dic h
  | _ => exact False.elim (by cases d <;> exact h)
def rSlD (K : PySem.W.Frag) : V → Option Int → Option Int → Hp → VK → Prop := fun x lo hi H Q => ∃ ρ st d Q', Ab K ρ st H ∧ Rep K ρ H d x ∧ wSl d lo hi st Q' ∧ Out K ρ H Q' Q
theorem cut_rep {K : PySem.W.Frag} {ρ : List Addr} {H : Hp} {xs : List D} {vs : List V} (q : Reps K ρ H xs vs) (lo hi : Option Int) : Reps K ρ H (cutD xs lo hi) (cutV vs lo hi) := by
  unfold cutD cutV
  rw [← q.length]
  exact (q.drop _).take _
theorem cutS_le (z : Str) (lo hi : Option Int) : (cutS z lo hi).length ≤ z.length := by
  unfold cutS
  show (List.toArray _).size ≤ z.cps.size
  rw [List.size_toArray, List.length_take, List.length_drop, Array.length_toList]
  omega
theorem ob_sl : SlR X (rSlD X.K) := by
  intro pins s σ H x v vl vu lo hi sl Q I rx hs pl pu hh
  obtain ⟨ρ, st, d, Q', A, r1, h, O⟩ := hh
  cases d with
  | str z =>
    obtain ⟨rfl, hz⟩ := rep_str.mp r1
    exact sl_str pins s σ H _ v vl vu lo hi sl Q I rx hs pl pu ⟨z, rfl, Lm_line hz, O.keep A (rep_str.mpr ⟨rfl, Nat.le_trans (cutS_le z lo hi) hz⟩) h⟩
  | tup xs =>
    obtain ⟨a, vs, rfl, s1, q1⟩ := rep_tup.mp r1
    refine sl_tupA pins s σ H _ v vl vu lo hi sl Q I rx hs pl pu ⟨a, vs, rfl, s1, fun z => ?_, fun _ => O.newT A (cut_rep q1 lo hi) h⟩
    have e : cutD xs lo hi = xs := by
      unfold cutD
      rw [q1.length, z.1, z.2, List.drop_zero, Nat.sub_zero, ← q1.length, List.take_length]
    have h' : Q' (.tup (cutD xs lo hi)) st := h
    rw [e] at h'
    exact O.keep A r1 h'
  | ref n =>
    have h' : (match lstAt st n with
      | some xs => Q' (.ref st.length) (st ++ [.lst (cutD xs lo hi)])
      | none => False) := h
    split at h'
    · rename_i xs e1
      obtain ⟨a, vs, rfl, _, s1, q1⟩ := A.lst e1 r1
      exact sl_list pins s σ H _ v vl vu lo hi sl Q I rx hs pl pu ⟨a, vs, rfl, s1, O.newL A (cut_rep q1 lo hi) h'⟩
    · exact False.elim h'
  | _ => exact False.elim h
end
end Q3

set_option Elab.async false
set_option linter.all false
set_option maxRecDepth 100000
set_option maxHeartbeats 4000000
/-! Q3d: built-in functions, methods by values. -/
namespace Q3
open PySem PySem.Spec PyProof.Rows L2
def Bf.fn : Bf → Value
  | .len => .builtin "len" | .int => .type "int" | .str => .type "str" | .min2 => .builtin "min" | .max2 => .builtin "max" | .list => .type "list" | .tuple => .type "tuple" | .all => .builtin "all" | .any => .builtin "any" | .sum => .builtin "sum"
def Bf.nm : Bf → Str
  | .len => "len" | .int => "int" | .str => "str" | .min2 => "min" | .max2 => "max" | .list => "list" | .tuple => "tuple" | .all => "all" | .any => "any" | .sum => "sum"
def Mt.id : Mt → String
  | .append => "list.append" | .join => "str.join" | .split => "str.split" | .starts => "str.startswith" | .index => "str.index" | .pop => "list.pop" | .extend => "list.extend" | .reverse => "list.reverse" | .get => "dict.get"
def Mt.nm : Mt → Str
  | .append => "append" | .join => "join" | .split => "split" | .starts => "startswith" | .index => "index" | .pop => "pop" | .extend => "extend" | .reverse => "reverse" | .get => "get"
def Mt.ty : Mt → String
  | .append => "list" | .join => "str" | .split => "str" | .starts => "str" | .index => "str" | .pop => "list" | .extend => "list" | .reverse => "list" | .get => "dict"
section
variable {X : Cx}
theorem reps_one {K : PySem.W.Frag} {ρ : List Addr} {H : Hp} {d : D} {vs : List V} (h : Reps K ρ H [d] vs) : ∃ v, vs = [v] ∧ Rep K ρ H d v := by
  rw [reps_cons] at h
  obtain ⟨v, r, rfl, h1, h2⟩ := h
  rw [reps_nil] at h2
  subst h2
  exact ⟨v, rfl, h1⟩
theorem reps_two {K : PySem.W.Frag} {ρ : List Addr} {H : Hp} {d e : D} {vs : List V} (h : Reps K ρ H [d, e] vs) : ∃ v u, vs = [v, u] ∧ Rep K ρ H d v ∧ Rep K ρ H e u := by
  rw [reps_cons] at h
  obtain ⟨v, r, rfl, h1, h2⟩ := h
  obtain ⟨u, rfl, h3⟩ := reps_one h2
  exact ⟨v, u, rfl, h1, h3⟩
def rBfD (K : PySem.W.Frag) (b : Bf) : List V → Hp → VK → Prop := fun xs H Q => ∃ ρ st ds Q', Ab K ρ st H ∧ Reps K ρ H ds xs ∧ wBf b ds st Q' ∧ Out K ρ H Q' Q
theorem lenD_of {ρ : List Addr} {H : Hp} {st : Sto} (A : Ab X.K ρ st H) {d : D} {v : V} {n : Nat} (h : lenD st d = some n) (r : Rep X.K ρ H d v) : LenV X.K v H n ∨ ∃ (a : Addr) (kvs : List (Key × V)), v = .ref a ∧ H a = some (.dK kvs) ∧ kvs.length = n := by
  have gen : (match seqOf st d with
      | some xs => some xs.length
      | none => dicLen st d) = some n → LenV X.K v H n ∨ ∃ (a : Addr) (kvs : List (Key × V)), v = .ref a ∧ H a = some (.dK kvs) ∧ kvs.length = n := by
    intro h'
    split at h'
    · rename_i xs q
      cases h'
      obtain ⟨p, vs, rfl, hs, q1⟩ := A.seq q r
      rcases hs with hs | hs
      · exact .inl (.inl ⟨vs, hs, q1.length⟩)
      · exact .inl (.inr ⟨vs, hs, q1.length⟩)
    · cases d with
      | ref m =>
        have h2 : (match st[m]? with
          | some (.dK kvs) => some kvs.length
          | _ => none) = some n := h'
        split at h2
        · rename_i kvs e1
          cases h2
          obtain ⟨a, vs, rfl, _, hp, q⟩ := A.dK e1 r
          exact .inr ⟨a, vs, rfl, hp, q.length.symm⟩
        · cases h2
      | _ => cases h'
  cases d with
  | str x =>
    cases h
    obtain ⟨rfl, hx⟩ := rep_str.mp r
    exact .inl ⟨Lm_line hx, rfl⟩
  | _ => exact gen h
theorem call_len_dk : CallR X (.builtin "len") (fun xs H Q => ∃ a kvs, xs = [V.ref a] ∧ H a = some (.dK kvs) ∧ Q (.int kvs.length) H) := by
  intro pins s σ H xs us Q I r h
  obtain ⟨a, kvs, rfl, e, q⟩ := h
  cases r with
  | cons rx rr =>
    cases rr
    cases rx
    exact d_len I (.inl e) fun t s' J => ⟨.int kvs.length, H, J, ⟨t, rfl⟩, q⟩
theorem min_inv {st : Sto} {Q' : KD} : ∀ {ds : List D}, wBf .min2 ds st Q' → ∃ i j, ds = [.int i, .int j] ∧ Q' (.int (if j < i then j else i)) st
  | [], h => False.elim h
  | [a], h => by cases a <;> exact False.elim h
  | [a, b], h => by cases a <;> cases b <;> first | exact ⟨_, _, rfl, h⟩ | exact False.elim h
  | a :: b :: c :: r, h => by cases a <;> cases b <;> exact False.elim h
theorem max_inv {st : Sto} {Q' : KD} : ∀ {ds : List D}, wBf .max2 ds st Q' → ∃ i j, ds = [.int i, .int j] ∧ Q' (.int (if j > i then j else i)) st
  | [], h => False.elim h
  | [a], h => by cases a <;> exact False.elim h
  | [a, b], h => by cases a <;> cases b <;> first | exact ⟨_, _, rfl, h⟩ | exact False.elim h
  | a :: b :: c :: r, h => by cases a <;> cases b <;> exact False.elim h
theorem bls_rep {K : PySem.W.Frag} {ρ : List Addr} {H : Hp} : ∀ {ds : List D} {vs : List V} {bs : List Bool}, blsOf ds = some bs → Reps K ρ H ds vs → vs = bs.map V.bl
  | [], vs, bs, h, r => by cases h; rw [reps_nil] at r; exact r
  | .bl b :: ds, vs, bs, h, r => by
    have h' : (blsOf ds).map (b :: ·) = some bs := h
    rw [Option.map_eq_some_iff] at h'
    obtain ⟨cs, h1, rfl⟩ := h'
    rw [reps_cons] at r
    obtain ⟨v, u, rfl, r1, r2⟩ := r
    cases rep_bl.mp r1
    rw [bls_rep h1 r2]; rfl
  | .non :: _, _, _, h, _ => by cases h
  | .int _ :: _, _, _, h, _ => by cases h
  | .str _ :: _, _, _, h, _ => by cases h
  | .tup _ :: _, _, _, h, _ => by cases h
  | .ref _ :: _, _, _, h, _ => by cases h
theorem ints_rep {K : PySem.W.Frag} {ρ : List Addr} {H : Hp} : ∀ {ds : List D} {vs : List V} {bs : List Int}, intsOf ds = some bs → Reps K ρ H ds vs → vs = bs.map V.int
  | [], vs, bs, h, r => by cases h; rw [reps_nil] at r; exact r
  | .int b :: ds, vs, bs, h, r => by
    have h' : (intsOf ds).map (b :: ·) = some bs := h
    rw [Option.map_eq_some_iff] at h'
    obtain ⟨cs, h1, rfl⟩ := h'
    rw [reps_cons] at r
    obtain ⟨v, u, rfl, r1, r2⟩ := r
    cases rep_int.mp r1
    rw [ints_rep h1 r2]; rfl
  | .non :: _, _, _, h, _ => by cases h
  | .bl _ :: _, _, _, h, _ => by cases h
  | .str _ :: _, _, _, h, _ => by cases h
  | .tup _ :: _, _, _, h, _ => by cases h
  | .ref _ :: _, _, _, h, _ => by cases h
theorem inL_of {α : Type} {f : List D → Option α} {ρ : List Addr} {H : Hp} {st : Sto} (A : Ab X.K ρ st H) {d : D} {v : V} {z : α} (h : inL f st d = some z) (r : Rep X.K ρ H d v) : ∃ a ds vs, v = .ref a ∧ SqL X.K H a vs ∧ Reps X.K ρ H ds vs ∧ f ds = some z := by
  cases d with
  | ref n =>
    have h' : (lstAt st n).bind f = some z := h
    rw [Option.bind_eq_some_iff] at h'
    obtain ⟨ds, h1, h2⟩ := h'
    obtain ⟨a, vs, rfl, _, s1, q1⟩ := A.lst h1 r
    exact ⟨a, ds, vs, rfl, s1, q1, h2⟩
  | _ => cases h
theorem ob_bf (hc : X.calm = true) (b : Bf) : CallR X b.fn (rBfD X.K b) := by
  intro pins s σ H xs us Q I rv hh
  obtain ⟨ρ, st, ds, Q', A, r, h, O⟩ := hh
  cases b with
  | len =>
    match ds, h with
    | [d], h =>
      obtain ⟨v, rfl, r1⟩ := reps_one r
      have h' : (match lenD st d with
        | some n => Q' (.int n) st
        | none => False) := h
      split at h'
      · rename_i n e1
        rcases lenD_of A e1 r1 with hl | ⟨a, kvs, rfl, hp, hl⟩
        · exact call_len pins s σ H _ us Q I rv ⟨v, n, rfl, hl, O.keep A (rep_int.mpr rfl) h'⟩
        · exact call_len_dk pins s σ H _ us Q I rv ⟨a, kvs, rfl, hp, by rw [hl]; exact O.keep A (rep_int.mpr rfl) h'⟩
      · exact False.elim h'
    | [], h => exact False.elim h
    | _ :: _ :: _, h => exact False.elim h
  | int =>
    match ds, h with
    | [.int i], h =>
      obtain ⟨v, rfl, r1⟩ := reps_one r
      cases rep_int.mp r1
      exact call_int1 pins s σ H _ us Q I rv (.inl ⟨i, rfl, O.keep A (rep_int.mpr rfl) h⟩)
    | [.bl k], h =>
      obtain ⟨v, rfl, r1⟩ := reps_one r
      cases rep_bl.mp r1
      exact call_int1 pins s σ H _ us Q I rv (.inr ⟨k, rfl, O.keep A (rep_int.mpr rfl) h⟩)
    | [.str a], h =>
      obtain ⟨v, rfl, r1⟩ := reps_one r
      obtain ⟨rfl, _⟩ := rep_str.mp r1
      have h' : (match intText? a with
        | some n => a.length ≤ 640 ∧ Q' (.int n) st
        | none => False) := h
      split at h'
      · rename_i n e1
        exact call_int_str pins s σ H _ us Q I rv ⟨a, n, rfl, e1, h'.1, O.keep A (rep_int.mpr rfl) h'.2⟩
      · exact False.elim h'
    | [.non], h => exact False.elim h
    | [.tup _], h => exact False.elim h
    | [.ref _], h => exact False.elim h
    | [], h => exact False.elim h
    | _ :: _ :: _, h => exact (by revert h; rename_i a b c; cases a <;> exact False.elim)
  | str =>
    match ds, h with
    | [.int i], h =>
      obtain ⟨v, rfl, r1⟩ := reps_one r
      cases rep_int.mp r1
      obtain ⟨h1, h2, h3⟩ : i.natAbs.log2 < 1920 ∧ (toString i : Str).length ≤ Lm ∧ Q' (.str (toString i)) st := h
      exact call_str_int pins s σ H _ us Q I rv ⟨i, rfl, h1, O.keep A (rep_str.mpr ⟨rfl, h2⟩) h3⟩
    | [.non], h => exact False.elim h
    | [.bl _], h => exact False.elim h
    | [.str _], h => exact False.elim h
    | [.tup _], h => exact False.elim h
    | [.ref _], h => exact False.elim h
    | [], h => exact False.elim h
    | _ :: _ :: _, h => exact (by revert h; rename_i a b c; cases a <;> exact False.elim)
  | min2 =>
    have h' := min_inv h
    obtain ⟨i, j, rfl, h'⟩ := h'
    obtain ⟨v, u, rfl, r1, r2⟩ := reps_two r
    cases rep_int.mp r1; cases rep_int.mp r2
    exact call_min2 hc pins s σ H _ us Q I rv ⟨i, j, rfl, O.keep A (rep_int.mpr rfl) h'⟩
  | max2 =>
    have h' := max_inv h
    obtain ⟨i, j, rfl, h'⟩ := h'
    obtain ⟨v, u, rfl, r1, r2⟩ := reps_two r
    cases rep_int.mp r1; cases rep_int.mp r2
    exact call_max2 hc pins s σ H _ us Q I rv ⟨i, j, rfl, O.keep A (rep_int.mpr rfl) h'⟩
  | list =>
    match ds, h with
    | [d], h =>
      obtain ⟨v, rfl, r1⟩ := reps_one r
      have h' : (match seqOf st d with
        | some xs => Q' (.ref st.length) (st ++ [.lst xs])
        | none => False) := h
      split at h'
      · rename_i xs e1
        obtain ⟨p, vs, rfl, hs, q1⟩ := A.seq e1 r1
        exact call_list_of pins s σ H _ us Q I rv ⟨p, vs, rfl, hs, O.newL A q1 h'⟩
      · exact False.elim h'
    | [], h => exact False.elim h
    | _ :: _ :: _, h => exact False.elim h
  | tuple =>
    match ds, h with
    | [d], h =>
      obtain ⟨v, rfl, r1⟩ := reps_one r
      have h' : (match seqOf st d with
        | some xs => Q' (.tup xs) st
        | none => False) := h
      split at h'
      · rename_i xs e1
        obtain ⟨p, vs, rfl, hs, q1⟩ := A.seq e1 r1
        refine call_tuple_of pins s σ H _ us Q I rv ⟨p, vs, rfl, ?_⟩
        rcases hs with hs | hs
        · exact .inl ⟨hs, O.newT A q1 h'⟩
        · exact .inr ⟨hs, O.keep A (rep_tup.mpr ⟨p, vs, rfl, hs, q1⟩) h'⟩
      · exact False.elim h'
    | [], h => exact False.elim h
    | _ :: _ :: _, h => exact False.elim h
  | all =>
    match ds, h with
    | [d], h =>
      obtain ⟨v, rfl, r1⟩ := reps_one r
      have h' : (match inL blsOf st d with
        | some bs => Q' (.bl (bs.all id)) st
        | none => False) := h
      split at h'
      · rename_i bs e1
        obtain ⟨a, ds, vs, rfl, hs, q1, e2⟩ := inL_of A e1 r1
        have ev := bls_rep e2 q1
        subst ev
        exact cr_all hc pins s σ H _ us Q I rv ⟨a, bs, rfl, hs, O.keep A (rep_bl.mpr rfl) h'⟩
      · exact False.elim h'
    | [], h => exact False.elim h
    | _ :: _ :: _, h => exact False.elim h
  | any =>
    match ds, h with
    | [d], h =>
      obtain ⟨v, rfl, r1⟩ := reps_one r
      have h' : (match inL blsOf st d with
        | some bs => Q' (.bl (bs.any id)) st
        | none => False) := h
      split at h'
      · rename_i bs e1
        obtain ⟨a, ds, vs, rfl, hs, q1, e2⟩ := inL_of A e1 r1
        have ev := bls_rep e2 q1
        subst ev
        exact cr_any hc pins s σ H _ us Q I rv ⟨a, bs, rfl, hs, O.keep A (rep_bl.mpr rfl) h'⟩
      · exact False.elim h'
    | [], h => exact False.elim h
    | _ :: _ :: _, h => exact False.elim h
  | sum =>
    match ds, h with
    | [d], h =>
      obtain ⟨v, rfl, r1⟩ := reps_one r
      have h' : (match inL intsOf st d with
        | some bs => Q' (.int bs.sum) st
        | none => False) := h
      split at h'
      · rename_i bs e1
        obtain ⟨a, ds, vs, rfl, hs, q1, e2⟩ := inL_of A e1 r1
        have ev := ints_rep e2 q1
        subst ev
        exact cr_sum hc pins s σ H _ us Q I rv ⟨a, bs, rfl, hs, O.keep A (rep_int.mpr rfl) h'⟩
      · exact False.elim h'
    | [], h => exact False.elim h
    | _ :: _ :: _, h => exact False.elim h

def rMtD (K : PySem.W.Frag) (m : Mt) : V → List V → Hp → VK → Prop := fun x xs H Q => ∃ ρ st d ds Q', Ab K ρ st H ∧ Rep K ρ H d x ∧ Reps K ρ H ds xs ∧ wMt m d ds st Q' ∧ Out K ρ H Q' Q
theorem strsOf_rep {ρ : List Addr} {H : Hp} : ∀ {ds : List D} {vs : List V} {zs : List Str}, strsOf ds = some zs → Reps X.K ρ H ds vs → vs = zs.map V.str
  | [], vs, zs, h, r => by cases h; rw [reps_nil] at r; exact r
  | .str x :: ds, vs, zs, h, r => by
    have h' : (strsOf ds).map (x :: ·) = some zs := h
    rw [reps_cons] at r
    obtain ⟨v, r', rfl, h1, h2⟩ := r
    obtain ⟨rfl, _⟩ := rep_str.mp h1
    cases q : strsOf ds with
    | none => rw [q] at h'; cases h'
    | some ys =>
      rw [q] at h'
      cases h'
      rw [strsOf_rep q h2]
      rfl
  | .non :: ds, vs, zs, h, r => by cases h
  | .bl _ :: ds, vs, zs, h, r => by cases h
  | .int _ :: ds, vs, zs, h, r => by cases h
  | .tup _ :: ds, vs, zs, h, r => by cases h
  | .ref _ :: ds, vs, zs, h, r => by cases h
theorem reps_strs {ρ : List Addr} {H : Hp} : ∀ {zs : List Str}, (∀ z ∈ zs, z.length ≤ Lm) → Reps X.K ρ H (zs.map D.str) (zs.map V.str)
  | [], _ => reps_nil.mpr rfl
  | z :: zs, h => reps_cons.mpr ⟨_, _, rfl, rep_str.mpr ⟨rfl, h z List.mem_cons_self⟩, reps_strs fun y hy => h y (List.mem_cons_of_mem _ hy)⟩
theorem ob_mt (hu : X.A.units + 1 < cLine) (m : Mt) (hm : m ≠ .extend) : MtR X m.id (rMtD X.K m) := by
  intro pins s σ H x xs v us Q I rx rv hh
  obtain ⟨ρ, st, d, ds, Q', A, r, rs, h, O⟩ := hh
  cases m with
  | append =>
    have h' : ∃ a e, d = .ref a ∧ ds = [e] ∧ (match st[a]? with
      | some (.lst ys) => ys.length < Lm ∧ Q' .non (st.set a (.lst (ys ++ [e])))
      | _ => False) := by
      cases d with
      | ref a => match ds, h with
        | [e], h => exact ⟨a, e, rfl, rfl, h⟩
        | [], h => exact False.elim h
        | _ :: _ :: _, h => exact False.elim h
      | _ => exact False.elim h
    obtain ⟨a, e, rfl, rfl, h'⟩ := h'
    split at h'
    · rename_i ys e1
      obtain ⟨p, vs, rfl, hr, hp, q1⟩ := A.mlst e1 r
      obtain ⟨u, rfl, r1⟩ := reps_one rs
      exact mt_append pins s σ H _ _ v us Q I rx rv ⟨p, vs, u, rfl, rfl, hp, Lm_lt (by rw [← q1.length]; exact h'.1), O.setL A e1 hr hp (q1.append (reps_cons.mpr ⟨u, [], rfl, r1, reps_nil.mpr rfl⟩)) (rep_non.mpr rfl) h'.2⟩
    · exact False.elim h'
  | reverse =>
    have h' : ∃ a, d = .ref a ∧ ds = [] ∧ (match st[a]? with
      | some (.lst ys) => Q' .non (st.set a (.lst ys.reverse))
      | _ => False) := by
      cases d with
      | ref a => match ds, h with
        | [], h => exact ⟨a, rfl, rfl, h⟩
        | _ :: _, h => exact False.elim h
      | _ => exact False.elim h
    obtain ⟨a, rfl, rfl, h'⟩ := h'
    split at h'
    · rename_i ys e1
      obtain ⟨p, vs, rfl, hr, hp, q1⟩ := A.mlst e1 r
      rw [reps_nil] at rs
      subst rs
      exact mt_reverse pins s σ H _ _ v us Q I rx rv ⟨p, vs, rfl, rfl, hp, O.setL A e1 hr hp q1.reverse (rep_non.mpr rfl) h'⟩
    · exact False.elim h'
  | pop =>
    have h' : ∃ a, d = .ref a ∧ ds = [] ∧ (match st[a]? with
      | some (.lst ys) => match ys.getLast? with
        | some d => Q' d (st.set a (.lst ys.dropLast))
        | none => False
      | _ => False) := by
      cases d with
      | ref a => match ds, h with
        | [], h => exact ⟨a, rfl, rfl, h⟩
        | _ :: _, h => exact False.elim h
      | _ => exact False.elim h
    obtain ⟨a, rfl, rfl, h'⟩ := h'
    split at h'
    · rename_i ys e1
      split at h'
      · rename_i z e2
        obtain ⟨p, vs, rfl, hr, hp, q1⟩ := A.mlst e1 r
        rw [reps_nil] at rs
        subst rs
        rw [List.getLast?_eq_getElem?, q1.length] at e2
        obtain ⟨u, hu, ru⟩ := q1.get e2
        exact mt_pop pins s σ H _ _ v us Q I rx rv ⟨p, vs, u, rfl, rfl, hp, hu, O.setL A e1 hr hp q1.dropLast ru h'⟩
      · exact False.elim h'
    · exact False.elim h'
  | join =>
    have h' : ∃ a e, d = .str a ∧ ds = [e] ∧ (match seqOf st e with
      | some ys => match strsOf ys with
        | some zs => (zs.map (·.length)).sum + zs.length * a.length ≤ Lm ∧ (Txt.join a zs).length ≤ Lm ∧ Q' (.str (Txt.join a zs)) st
        | none => False
      | none => False) := by
      cases d with
      | str a => match ds, h with
        | [e], h => exact ⟨a, e, rfl, rfl, h⟩
        | [], h => exact False.elim h
        | _ :: _ :: _, h => exact False.elim h
      | _ => exact False.elim h
    obtain ⟨a, e, rfl, rfl, h'⟩ := h'
    split at h'
    · rename_i ys e1
      split at h'
      · rename_i zs e2
        obtain ⟨u, rfl, r1⟩ := reps_one rs
        obtain ⟨p, vs, rfl, hs, q1⟩ := A.seq e1 r1
        obtain ⟨rfl, _⟩ := rep_str.mp r
        have ev := strsOf_rep e2 q1
        subst ev
        exact mt_join pins s σ H _ _ v us Q I rx rv ⟨a, p, zs, rfl, rfl, hs, h'.1, O.keep A (rep_str.mpr ⟨rfl, h'.2.1⟩) h'.2.2⟩
      · exact False.elim h'
    · exact False.elim h'
  | split =>
    have h' : ∃ a b, d = .str a ∧ ds = [.str b] ∧ ((b.length == 0) = false ∧ a.length + 2 ≤ Lm ∧ (∀ z ∈ Txt.split a b, z.length ≤ Lm)) ∧ Q' (.ref st.length) (st ++ [.lst ((Txt.split a b).map D.str)]) := by
      cases d with
      | str a => match ds, h with
        | [.str e], h => exact ⟨a, e, rfl, rfl, h⟩
        | [], h => exact False.elim h
        | [.non], h => exact False.elim h
        | [.bl _], h => exact False.elim h
        | [.int _], h => exact False.elim h
        | [.tup _], h => exact False.elim h
        | [.ref _], h => exact False.elim h
        | e :: _ :: _, h => exact (by revert h; cases e <;> exact False.elim)
      | _ => exact False.elim h
    obtain ⟨a, b, rfl, rfl, ⟨h1, h2, h3⟩, h4⟩ := h'
    obtain ⟨u, rfl, r1⟩ := reps_one rs
    obtain ⟨rfl, _⟩ := rep_str.mp r1
    obtain ⟨rfl, _⟩ := rep_str.mp r
    exact mt_split pins s σ H _ _ v us Q I rx rv ⟨a, b, rfl, rfl, h1, Lm_line h2, O.newL A (reps_strs h3) h4⟩
  | starts =>
    have h' : ∃ a b, d = .str a ∧ ds = [.str b] ∧ Q' (.bl (Txt.startswith a b)) st := by
      cases d with
      | str a => match ds, h with
        | [.str e], h => exact ⟨a, e, rfl, rfl, h⟩
        | [], h => exact False.elim h
        | [.non], h => exact False.elim h
        | [.bl _], h => exact False.elim h
        | [.int _], h => exact False.elim h
        | [.tup _], h => exact False.elim h
        | [.ref _], h => exact False.elim h
        | e :: _ :: _, h => exact (by revert h; cases e <;> exact False.elim)
      | _ => exact False.elim h
    obtain ⟨a, b, rfl, rfl, h4⟩ := h'
    obtain ⟨u, rfl, r1⟩ := reps_one rs
    obtain ⟨rfl, _⟩ := rep_str.mp r1
    obtain ⟨rfl, _⟩ := rep_str.mp r
    exact mt_startswith pins s σ H _ _ v us Q I rx rv ⟨a, b, rfl, rfl, O.keep A (rep_bl.mpr rfl) h4⟩
  | index =>
    have h' : ∃ a b, d = .str a ∧ ds = [.str b] ∧ (match Builtin.Str.occurrences a b 0 a.length 1 with
      | k :: _ => Q' (.int (k : Nat)) st
      | [] => False) := by
      cases d with
      | str a => match ds, h with
        | [.str e], h => exact ⟨a, e, rfl, rfl, h⟩
        | [], h => exact False.elim h
        | [.non], h => exact False.elim h
        | [.bl _], h => exact False.elim h
        | [.int _], h => exact False.elim h
        | [.tup _], h => exact False.elim h
        | [.ref _], h => exact False.elim h
        | e :: _ :: _, h => exact (by revert h; cases e <;> exact False.elim)
      | _ => exact False.elim h
    obtain ⟨a, b, rfl, rfl, h4⟩ := h'
    obtain ⟨u, rfl, r1⟩ := reps_one rs
    obtain ⟨rfl, _⟩ := rep_str.mp r1
    obtain ⟨rfl, _⟩ := rep_str.mp r
    split at h4
    · rename_i k rest e1
      exact mt_sindex pins s σ H _ _ v us Q I rx rv ⟨a, b, k, rest, rfl, rfl, e1, O.keep A (rep_int.mpr rfl) h4⟩
    · exact False.elim h4
  | get =>
    match ds, h with
    | [y], h =>
      obtain ⟨w, rfl, r2⟩ := reps_one rs
      have h' : (match dicGet st d y with
        | some o => Q' (o.getD .non) st
        | none => False) := h
      split at h'
      · rename_i o e1
        obtain ⟨a, z, rfl, gd, q⟩ := dic_of A e1 r r2
        cases (show v = Value.ref a from rx)
        obtain ⟨u, rfl, ru⟩ := vals1 rv
        refine d_get1 hu I gd ru fun w' s' J rw' => ?_
        rcases q with ⟨rfl, rfl⟩ | ⟨d0, w0, rfl, rfl, r3⟩
        · exact ⟨.non, H, J, rw', O.keep A (rep_non.mpr rfl) h'⟩
        · exact ⟨w0, H, J, rw', O.keep A r3 h'⟩
      · exact False.elim h'
    | [y, y2], h =>
      obtain ⟨w, w2, rfl, r2, r4⟩ := reps_two rs
      have h' : (match dicGet st d y with
        | some o => Q' (o.getD y2) st
        | none => False) := h
      split at h'
      · rename_i o e1
        obtain ⟨a, z, rfl, gd, q⟩ := dic_of A e1 r r2
        cases (show v = Value.ref a from rx)
        obtain ⟨u, u2, rfl, ru, ru2⟩ := vals2 rv
        refine d_get2 hu I gd ru ru2 fun w' s' J rw' => ?_
        rcases q with ⟨rfl, rfl⟩ | ⟨d0, w0, rfl, rfl, r3⟩
        · exact ⟨w2, H, J, rw', O.keep A r4 h'⟩
        · exact ⟨w0, H, J, rw', O.keep A r3 h'⟩
      · exact False.elim h'
    | [], h => exact False.elim h
    | _ :: _ :: _ :: _, h => exact False.elim h
  | extend => exact absurd rfl hm
end
end Q3

set_option Elab.async false
set_option linter.all false
set_option maxRecDepth 100000
set_option maxHeartbeats 4000000
/-! Q3e: the text against the syntax of Q3a. -/
namespace Q3
open PySem PySem.Spec PyProof.Rows L2

/-- the names: of defs, of constants, of built-ins -/
structure Nms where
  F : List Str
  Gn : List Str
  B : List Str
  Xn : List Str := []
  calm : Bool := true
  exn : Option Nat := none
  /-- of written dicts -/
  Kn : List Str := []
def visB (sc : Scope) (x : Str) : Bool := match sc.names.lookup x with
  | some .local => true
  | some .cell => true
  | some .free => true
  | _ => false
def locB (sc : Scope) (x : Str) : Bool := match sc.names.lookup x with
  | some .local => true
  | some .cell => true
  | _ => false
def gloB (sc : Scope) (x : Str) : Bool := (match sc.names.lookup x with
  | some .globalImplicit => true
  | _ => false) && !(x == ("__debug__" : Str)) && !(x == ("__name__" : Str))
/-- a built-in type's name -/
def tyB (M : Nms) (sc : Scope) (t : Ty) : Expr → Bool
  | .Name x _ => decide (x = (Str.ofString t.nm)) && !t.isOwn && decide (x ∈ M.B) && gloB sc x
  | _ => false
def tysB (M : Nms) (sc : Scope) : List Ty → Expr → Bool
  | [t], .Name x p => tyB M sc t (.Name x p)
  | ts, .Tuple es _ _ => decide (ts.length = es.length) && decide (ts.length ≤ 1000) && (ts.zip es).all fun p => tyB M sc p.1 p.2
  | _, _ => false
def plainObj : Expr → Bool
  | .Call _ _ _ _ => false
  | _ => true
def isTupE : Expr → Bool
  | .Tuple _ _ _ => true
  | _ => false
def I.tgB : I → Expr → Bool
  | .enum _, tg => isTupE tg
  | .zip _ _, tg => isTupE tg
  | _, _ => true
def namesOf : Expr → Option (List Str)
  | .Name x _ => some [x]
  | .Tuple es _ _ => es.mapM fun e => match e with
    | .Name x _ => some x
    | _ => none
  | _ => none
def chkTg (N : List Str) (loc : Str → Bool) (g : Tg) (tg : Expr) : Bool := match g, tg with
  | .nm i, .Name x _ => decide (N[i]? = some x) && loc x
  | .tp is, .Tuple es _ _ => decide (is.length = es.length) && (is.zip es).all fun p => match p.2 with
    | .Name x _ => decide (N[p.1]? = some x) && loc x
    | _ => false
  | _, _ => false
def ownOf (g : Tg) (tg : Expr) : List (Str × Nat) := match namesOf tg with
  | some xs => xs.zip g.slots
  | none => []
def oplB (no : Bool) (r : Expr → Bool) : Option Expr → Bool
  | none => no
  | some p => !no && r p
def ifsB (yes : Bool) (r : Expr → Bool) : List Expr → Bool
  | [] => yes
  | [p] => r p
  | _ => false
def T.isYes : T → Bool
  | .yes => true
  | _ => false
def E.asVal : E → Bool
  | .and _ _ => false
  | .or _ _ => false
  | .not _ => false
  | .ite _ _ _ => false
  | _ => true
/-- a key that is written -/
def keyB : Key → Option Expr → Bool
  | .inl i, some (.Constant (.int j) _ _) => decide (i = j)
  | .inr x, some (.Constant (.str y) _ _) => decide (x = y)
  | _, _ => false
def keysB : List Key → List (Option Expr) → Bool
  | [], [] => true
  | k :: ks, e :: es => keyB k e && keysB ks es
  | _, _ => false
section
variable (M : Nms) (N : List Str)
mutual
def chkE : E → Scope → Expr → Bool
  | .var i, sc, .Name x _ => decide (N[i]? = some x) && visB sc x && !(x == ("__debug__" : Str)) && !(x == ("__classdict__" : Str))
  | .int i, _, .Constant (.int j) _ _ => decide (i = j)
  | .str x, _, .Constant (.str y) _ _ => decide (x = y) && decide (x.length ≤ Lm)
  | .bl b, _, .Constant (.bool c) _ _ => b == c
  | .non, _, .Constant .none _ _ => true
  | .glob k, sc, .Name x _ => decide (M.Gn[k]? = some x) && gloB sc x
  | .bin o a b, sc, .BinOp pa op pb _ => decide (op = o.py) && chkE a sc pa && chkE b sc pb
  | .neg a, sc, .UnaryOp .USub pa _ => chkE a sc pa
  | .cmp o a b, sc, .Compare pa [op] [pb] _ => decide (op = o.py) && !behindInMarks op pb && chkE a sc pa && chkE b sc pb
  | .chain o p a b c, sc, .Compare pa [op, op'] [pb, pc] _ => decide (op = o.py) && decide (op' = p.py) && !lastMarks [op, op'] [pb, pc] && chkE a sc pa && chkE b sc pb && chkE c sc pc
  | .and a b, sc, .BoolOp .And [pa, pb] _ => chkE a sc pa && chkE b sc pb
  | .and a b, sc, .BoolOp .And (pa :: pb :: pc :: r) pos => chkE a sc pa && chkE b sc (.BoolOp .And (pb :: pc :: r) pos)
  | .or a b, sc, .BoolOp .Or [pa, pb] _ => chkE a sc pa && chkE b sc pb
  | .or a b, sc, .BoolOp .Or (pa :: pb :: pc :: r) pos => chkE a sc pa && chkE b sc (.BoolOp .Or (pb :: pc :: r) pos)
  | .not a, sc, .UnaryOp .Not pa _ => chkE a sc pa
  | .ite c a b, sc, .IfExp pc pa pb _ => chkT c sc pc && chkE a sc pa && chkE b sc pb
  | .sl a lo hi, sc, .Subscript pa (.Slice pl ph none _) _ => chkE a sc pa && oplB lo.isNo (fun p => chkE lo sc p) pl && oplB hi.isNo (fun p => chkE hi sc p) ph
  | .ix a i, sc, .Subscript pa pi _ => chkE a sc pa && chkE i sc pi
  | .tup es, sc, .Tuple pes _ _ => chkEs es sc pes
  | .lst es, sc, .List pes _ => chkEs es sc pes
  | .dct ks es, sc, .Dict keys pes _ => keysB ks keys && decide (ks.length = pes.length) && !keys.isEmpty && decide (keys.length ≤ 15) && keys.all (·.isSome) && decide (keys.length = pes.length) && chkEs es sc pes
  | .dc0, _, .Dict [] [] _ => true
  | .kget k e, sc, .Call (.Attribute (.Name x _) name apos) [pe] [] cpos => decide (name = "get") && decide (M.Kn[k]? = some x) && gloB sc x && (apos.endLine == cpos.line) && chkE e sc pe
  | .kix k e, sc, .Subscript (.Name x _) pe _ => decide (M.Kn[k]? = some x) && gloB sc x && chkE e sc pe
  | .kin neg k e, sc, .Compare pe [op] [.Name x _] _ => decide (op = if neg = true then .NotIn else .In) && decide (M.Kn[k]? = some x) && gloB sc x && chkE e sc pe
  | .dcT, _, .Dict [] [] _ => true
  | .call f es, sc, .Call (.Name x _) pes [] _ => M.calm && decide (M.F[f]? = some x) && gloB sc x && chkEs es sc pes
  | .bf b es, sc, .Call (.Name x _) pes [] _ => M.calm && decide (x = b.nm) && decide (x ∈ M.B) && gloB sc x && !pes.isEmpty && chkEs es sc pes
  | .isi e ts, sc, .Call (.Name x _) [pe, pt] [] _ => decide (x = "isinstance") && decide (x ∈ M.B) && gloB sc x && chkE e sc pe && tysB M sc ts pt
  | .mt m o es, sc, .Call (.Attribute po name apos) pes [] cpos => decide (name = m.nm) && decide (m.id ≠ "list.extend") && plainObj po && (apos.endLine == cpos.line) && decide (pes.length < 29) && chkE o sc po && chkEs es sc pes
  | .comp elt g it c, sc, .ListComp pelt [⟨tg, pit, ifs, 0⟩] scope _ =>
    M.calm && it.tgB tg && chkI it sc pit && blkC N sc scope (ownOf g tg) && decide ((ownOf g tg).map (·.2) = g.slots) && chkTg N (locB scope) g tg && chkE elt (relS scope sc) pelt && ifsB c.isYes (fun p => chkT c (relS scope sc) p) ifs
  | _, _, _ => false
def chkEs : Es → Scope → List Expr → Bool
  | .nil, _, [] => true
  | .cons e es, sc, pe :: pes => chkE e sc pe && chkEs es sc pes
  | _, _, _ => false
def chkT : T → Scope → Expr → Bool
  | .val e, sc, pe => e.asVal && chkE e sc pe
  | .and a b, sc, .BoolOp .And [pa, pb] _ => chkT a sc pa && chkT b sc pb
  | .and a b, sc, .BoolOp .And (pa :: pb :: pc :: r) pos => chkT a sc pa && chkT b sc (.BoolOp .And (pb :: pc :: r) pos)
  | .or a b, sc, .BoolOp .Or [pa, pb] _ => chkT a sc pa && chkT b sc pb
  | .or a b, sc, .BoolOp .Or (pa :: pb :: pc :: r) pos => chkT a sc pa && chkT b sc (.BoolOp .Or (pb :: pc :: r) pos)
  | .not a, sc, .UnaryOp .Not pa _ => chkT a sc pa
  | _, _, _ => false
def chkI : I → Scope → Expr → Bool
  | .seq e, sc, pe => chkE e sc pe
  | .rng1 a, sc, .Call (.Name x _) [pa] [] _ => decide (x = "range") && decide (x ∈ M.B) && gloB sc x && chkE a sc pa
  | .rng2 a b, sc, .Call (.Name x _) [pa, pb] [] _ => decide (x = "range") && decide (x ∈ M.B) && gloB sc x && chkE a sc pa && chkE b sc pb
  | .enum a, sc, .Call (.Name x _) [pa] [] _ => decide (x = "enumerate") && decide (x ∈ M.B) && gloB sc x && chkE a sc pa
  | .rev a, sc, .Call (.Name x _) [pa] [] _ => decide (x = "reversed") && decide (x ∈ M.B) && gloB sc x && chkE a sc pa
  | .zip a b, sc, .Call (.Name x _) [pa, pb] [] _ => decide (x = "zip") && decide (x ∈ M.B) && gloB sc x && chkE a sc pa && chkE b sc pb
  | _, _, _ => false
end
end
end Q3

set_option Elab.async false
set_option linter.all false
set_option maxRecDepth 100000
set_option maxHeartbeats 4000000
/-! Q3f: what the syntax tells, the model does: expressions. -/
namespace Q3
open PySem PySem.Spec PyProof.Rows L2

/-- an exception lies there: of class number c, with these fields -/
def RepX (K : PySem.W.Frag) (cl : List Value) (ρ : List Addr) (H : Hp) (c : Nat) (fs : List (Str × D)) (cls : Value) (d : Option Addr) : Prop :=
  cl[c]? = some cls ∧ ((fs = [] ∧ d = none) ∨ ∃ dx vs, d = some dx ∧ H dx = some (.xd vs) ∧ RepF K ρ H fs vs)
def OutX (K : PySem.W.Frag) (cl : List Value) (ρ : List Addr) (H : Hp) (Xk : KX) (E : XK) : Prop := ∀ c fs cls d st' H' ρ', Ab K ρ' st' H' → Ex ρ H ρ' H' → RepX K cl ρ' H' c fs cls d → Xk c fs st' → E cls d H'
theorem OutX.ext {K : PySem.W.Frag} {cl : List Value} {ρ ρ' : List Addr} {H H' : Hp} {Xk : KX} {E : XK} (o : OutX K cl ρ H Xk E) (e : Ex ρ H ρ' H') : OutX K cl ρ' H' Xk E :=
  fun c fs cls d st' H'' ρ'' a x r h => o c fs cls d st' H'' ρ'' a (e.trans x) r h
theorem OutX.no {K : PySem.W.Frag} {cl : List Value} {ρ : List Addr} {H : Hp} {E : XK} : OutX K cl ρ H noX E := fun _ _ _ _ _ _ _ _ _ _ h => h.elim
def spOf (K : PySem.W.Frag) (cl : List Value) (a : Nat) (c : List D → Sto → KD → KX → Prop) : Sp := fun vs H Q E =>
  vs.length = a ∧ ∃ ρ st ds Q' Xk, Ab K ρ st H ∧ Reps K ρ H ds vs ∧ c ds st Q' Xk ∧ Out K ρ H Q' Q ∧ OutX K cl ρ H Xk E
structure Gam where
  P : Program
  w : World
  K : PySem.W.Frag
  mg : Str → Option Value
  base : Heap
  n : Nat
  C : Cl
  M : Nms
  N : List Str
  cl : List Value
  W : WX
structure GOk (Γ : Gam) : Prop where
  nd : Γ.N.Nodup
  gl : ∀ (k : Nat) x, Γ.M.Gn[k]? = some x → ∃ d u v, Γ.C.G[k]? = some d ∧ Γ.mg x = some u ∧ RelV v u ∧ ∀ ρ H, Rep Γ.K ρ H d v
  bt : ∀ x ∈ Γ.M.B, Γ.mg x = none
  fn : ∀ (f : Nat) x, Γ.M.F[f]? = some x → ∃ fa fd ps, Γ.mg x = some (.ref fa) ∧ PySem.W.keepIn Γ.K (.ref fa) = true ∧ Binds Γ.K fd ps [] ∧ (∀ ds st Q Xk, Γ.C.call f ds st Q Xk → ds.length = ps.length) ∧
    FnOk Γ.P Γ.w Γ.K Γ.mg Γ.base (L2.CX Γ.P Γ.w) Γ.n fa fd ps (spOf Γ.K Γ.cl ps.length (Γ.C.call f))
  cex : Γ.M.calm = true → Γ.C.ex = none
  kd : ∀ (k : Nat) x, Γ.M.Kn[k]? = some x → ∃ d es n, Γ.mg x = some (.ref d) ∧ KDict Γ.K Γ.w d es n ∧ ∀ z o, kdAt Γ.C.KD k (.str z) = some o → ∃ r, PySem.W.nsIn Γ.K d z = some r ∧ ((o = none ∧ r = none) ∨ ∃ dd u v, o = some dd ∧ r = some u ∧ RelV v u ∧ ∀ ρ H, Rep Γ.K ρ H dd v)
structure Okx (Γ : Gam) (sc : Scope) (X : Cx) : Prop where
  P : X.prog = Γ.P
  w : X.w = Γ.w
  K : X.K = Γ.K
  mg : X.mg = Γ.mg
  base : X.base = Γ.base
  N : X.N = Γ.N
  sc : X.env.scope = sc
  calm : Γ.M.calm = true → X.calm = true
  tk : Takes X Γ.W
  hu : X.A.units + 65 < cLine
  room : Γ.M.calm = true → Room Γ.n X.A
  exi : ∀ x, Γ.C.ex = some x → ∃ X0 oe pn cls vs, X = Cx.suite X0 x.a ((x.a, oe) :: pn) ∧ Γ.cl[x.c]? = some cls ∧ Zc cls x.d oe ∧ oe.data = .fields vs
/-- the slots, what is wanted of exceptions, the exception at hand -/
structure Evx (Γ : Gam) (Xk : KX) (ρ : List Addr) (H : Hp) (en : En) (σ : L2.St) : Prop where
  ev : Evn Γ.K ρ H en σ
  ox : OutX Γ.K Γ.cl ρ H Xk (WE Γ.W σ)
  xi : ∀ x i, Γ.C.ex = some x → Γ.M.exn = some i → σ[i]? = some (some (.ref x.a)) ∧ ((x.fs = [] ∧ x.d = none) ∨ ∃ dx vs, x.d = some dx ∧ H dx = some (.xd vs) ∧ RepF Γ.K ρ H x.fs vs)
theorem Evx.ext {Γ : Gam} {Xk : KX} {ρ ρ' : List Addr} {H H' : Hp} {en : En} {σ : L2.St} (V : Evx Γ Xk ρ H en σ) (e : Ex ρ H ρ' H') : Evx Γ Xk ρ' H' en σ :=
  ⟨V.ev.ext e, V.ox.ext e, fun x i h1 h2 => ⟨(V.xi x i h1 h2).1, by
    rcases (V.xi x i h1 h2).2 with q | ⟨dx, vs, q1, q2, q3⟩
    · exact .inl q
    · exact .inr ⟨dx, vs, q1, e.xd _ _ q2, q3.ext e⟩⟩⟩

section
variable (Γ : Gam)
def SE (sc : Scope) (e : E) (pe : Expr) : Prop := ∃ t, (∀ X, Okx Γ sc X → PE X pe t) ∧ ∀ en st σ H ρ Q Xk R, Ab Γ.K ρ st H → Evx Γ Xk ρ H en σ → wE Γ.C e en st Q Xk → Out Γ.K ρ H Q R → t σ H R
def SA (sc : Scope) (es : Es) (pes : List Expr) : Prop := ∃ t, (∀ X, Okx Γ sc X → PA X pes t) ∧ ∀ en st σ H ρ Q Xk R, Ab Γ.K ρ st H → Evx Γ Xk ρ H en σ → wEs Γ.C es en st Q Xk →
  (∀ ds st' vs H' ρ', Ab Γ.K ρ' st' H' → Ex ρ H ρ' H' → Reps Γ.K ρ' H' ds vs → Q ds st' → R vs H') → t σ H R
def ST (sc : Scope) (c : T) (pc : Expr) : Prop := ∃ t, (∀ X, Okx Γ sc X → PT X pc t) ∧ ∀ en st σ H ρ Q Xk R, Ab Γ.K ρ st H → Evx Γ Xk ρ H en σ → wT Γ.C c en st Q Xk →
  (∀ b st' H' ρ', Ab Γ.K ρ' st' H' → Ex ρ H ρ' H' → Q b st' → R b H') → t σ H R
/-- the items of a walk, from a time on -/
def Walks (K : PySem.W.Frag) (J : L2.It) (it : It) (ρ0 : List Addr) (H0 : Hp) : Prop := ∀ ρ st H, Ab K ρ st H → Ex ρ0 H0 ρ H → gOk it.gs st → ∀ (i : Nat),
  (∀ d, it.xs[i]? = some d → J.go i H ∧ ∀ x H', J.yld i H x H' → Ab K ρ st H' ∧ Ex ρ H ρ H' ∧ Rep K ρ H' d x) ∧ (it.xs.length = i → J.stop i H)
def SI (sc : Scope) (it : I) (pit : Expr) : Prop := ∀ tg, it.tgB tg = true → ∃ t, (∀ X, Okx Γ sc X → PI X tg pit t) ∧ ∀ en st σ H ρ Q Xk R, Ab Γ.K ρ st H → Evx Γ Xk ρ H en σ → wI Γ.C it en st Q Xk →
  (∀ J j st' H' ρ', Ab Γ.K ρ' st' H' → Ex ρ H ρ' H' → Walks Γ.K J j ρ' H' → Q j st' → R J H') → t σ H R
end

section
variable {Γ : Gam} {sc : Scope} {a b c i lo hi elt : E} {pa pb pc pi plo phi pelt : Expr} {pos : Pos}
theorem okx_hu {X : Cx} (h : Okx Γ sc X) : X.A.units + 65 < cLine := h.hu
theorem visB_ok {x : Str} (h : visB sc x = true) : Vis sc x := by
  unfold visB at h
  split at h
  · exact .inl (by assumption)
  · exact .inr (.inl (by assumption))
  · exact .inr (.inr (by assumption))
  · cases h
theorem gloB_ok {x : Str} (h : gloB sc x = true) : sc.names.lookup x = some .globalImplicit ∧ (x == ("__debug__" : Str)) = false ∧ x ≠ "__name__" := by
  unfold gloB at h
  rw [Bool.and_eq_true, Bool.and_eq_true] at h
  obtain ⟨⟨h1, h2⟩, h3⟩ := h
  refine ⟨?_, by simpa using h2, by simpa using h3⟩
  split at h1
  · assumption
  · cases h1
theorem gl_of {X : Cx} (h : Okx Γ sc X) {x : Str} (hx : sc.names.lookup x = some .globalImplicit) : Gl X x := by
  show X.env.scope.names.lookup x = _
  rw [h.sc]; exact hx

/-! ### no star, no set among what is checked -/
def fine : Expr → Bool
  | .Starred _ _ => false
  | .Set _ _ _ => false
  | .Slice _ _ _ _ => false
  | _ => true
theorem fine_of {M : Nms} {N : List Str} : ∀ {e : E} {sc : Scope} {pe : Expr}, chkE M N e sc pe = true → fine pe = true := by
  intro e sc pe h
  cases pe <;> first
    | rfl
    | (exfalso; unfold chkE at h; split at h <;> first | (rename_i q; cases q; done) | exact Bool.false_ne_true h | (rename_i q _ ; cases q; done))
theorem star_of {pe : Expr} (h : fine pe = true) (pes : List Expr) (env : Env) : starEach (pe :: pes) env = (false, eval pe env) :: starEach pes env := by
  cases pe <;> first | rfl | cases h
theorem fold_of {pe : Expr} (h : fine pe = true) (env : Env) : ∀ x, foldedSetIterable pe env x = pure x := by
  intro x
  cases pe <;> first | rfl | cases h
theorem plainIx_of {pe : Expr} (h : fine pe = true) : PlainIx pe := by
  intro o i
  cases pe <;> first | rfl | cases h
end
end Q3

set_option Elab.async false
set_option linter.all false
set_option maxRecDepth 100000
set_option maxHeartbeats 4000000
/-! Q3g: expressions, one construct at a time. -/
namespace Q3
open PySem PySem.Spec PyProof.Rows L2
section
variable {Γ : Gam} {sc : Scope} {a b c i lo hi elt : E} {pa pb pc pi plo phi pelt : Expr} {pos : Pos}

theorem se_var {k : Nat} {x : Str} (h1 : Γ.N[k]? = some x) (h2 : visB sc x = true) (h3 : (x == ("__debug__" : Str)) = false) (h4 : (x == ("__classdict__" : Str)) = false) : SE Γ sc (.var k) (.Name x pos) := by
  refine ⟨tVar k, fun X hX => pe_var (by rw [hX.N]; exact h1) (by rw [hX.sc]; exact visB_ok h2) h3 h4, fun en st σ H ρ Q Xk R A V h O => ?_⟩
  have h' : (match en[k]? with
    | some (some d) => Q d st
    | _ => False) := h
  split at h'
  · rename_i d e1
    obtain ⟨v, hv, rv⟩ := V.ev.at_ k d e1
    exact ⟨v, hv, O.keep A rv h'⟩
  · exact False.elim h'
theorem se_int {k : Int} {j : Nat} : SE Γ sc (.int k) (.Constant (.int k) j pos) :=
  ⟨tC (.int k), fun X _ => pe_int, fun en st σ H ρ Q Xk R A V h O => O.keep A (rep_int.mpr rfl) h⟩
theorem se_str {x : Str} {j : Nat} (hx : x.length ≤ Lm) : SE Γ sc (.str x) (.Constant (.str x) j pos) :=
  ⟨tC (.str x), fun X _ => pe_str, fun en st σ H ρ Q Xk R A V h O => O.keep A (rep_str.mpr ⟨rfl, hx⟩) h⟩
theorem se_bl {x : Bool} {j : Nat} : SE Γ sc (.bl x) (.Constant (.bool x) j pos) :=
  ⟨tC (.bl x), fun X _ => pe_bl, fun en st σ H ρ Q Xk R A V h O => O.keep A (rep_bl.mpr rfl) h⟩
theorem se_non {j : Nat} : SE Γ sc .non (.Constant .none j pos) :=
  ⟨tC .non, fun X _ => pe_non, fun en st σ H ρ Q Xk R A V h O => O.keep A (rep_non.mpr rfl) h⟩
theorem se_glob (G : GOk Γ) {k : Nat} {x : Str} (h1 : Γ.M.Gn[k]? = some x) (h2 : gloB sc x = true) : SE Γ sc (.glob k) (.Name x pos) := by
  obtain ⟨d, u, v, hd, hu, ruv, rep⟩ := G.gl k x h1
  obtain ⟨g1, g2, g3⟩ := gloB_ok h2
  refine ⟨tC v, fun X hX => pe_glob (gl_of hX g1) (by rw [hX.mg]; exact hu) ruv g2, fun en st σ H ρ Q Xk R A V h O => ?_⟩
  have h' : (match Γ.C.G[k]? with
    | some d => Q d st
    | none => False) := h
  rw [hd] at h'
  exact O.keep A (rep ρ H) h'
theorem se_bin (o : Op) (ha : SE Γ sc a pa) (hb : SE Γ sc b pb) : SE Γ sc (.bin o a b) (.BinOp pa o.py pb pos) := by
  obtain ⟨ta, pa', ra⟩ := ha
  obtain ⟨tb, pb', rb⟩ := hb
  refine ⟨tOp (rBinD Γ.K o) ta tb, fun X hX => ?_, fun en st σ H ρ Q Xk R A V h O => ?_⟩
  · have q := pe_op (pos := pos) (ob_bin (X := X) o) (pa' X hX) (pb' X hX)
    rw [hX.K] at q
    exact q
  · refine ra en st σ H ρ _ Xk _ A V h fun d st1 v H1 ρ1 A1 e1 r1 h1 => ?_
    refine rb en st1 σ H1 ρ1 _ Xk _ A1 (V.ext e1) h1 fun d2 st2 v2 H2 ρ2 A2 e2 r2 h2 => ?_
    exact ⟨ρ2, st2, d, d2, Q, A2, r1.ext e2, r2, h2, fun d3 st3 v3 H3 ρ3 A3 e3 r3 h3 => O d3 st3 v3 H3 ρ3 A3 (e1.trans (e2.trans e3)) r3 h3⟩
theorem Rep_ext {K : PySem.W.Frag} {ρ ρ' : List Addr} {H H' : Hp} {d : D} {v : V} (r : Rep K ρ H d v) (e : Ex ρ H ρ' H') : Rep K ρ' H' d v := r.ext e
theorem se_neg (ha : SE Γ sc a pa) : SE Γ sc (.neg a) (.UnaryOp .USub pa pos) := by
  obtain ⟨ta, pa', ra⟩ := ha
  refine ⟨tUn (rU fun i => .int (-i)) ta, fun X hX => pe_un un_neg (pa' X hX), fun en st σ H ρ Q Xk R A V h O => ?_⟩
  refine ra en st σ H ρ _ Xk _ A V h fun d st1 v H1 ρ1 A1 e1 r1 h1 => ?_
  cases d with
  | int i =>
    cases rep_int.mp r1
    exact ⟨i, rfl, O _ _ _ _ _ A1 e1 (rep_int.mpr rfl) h1⟩
  | _ => exact False.elim h1
theorem se_cmp (o : Cm) (hm : behindInMarks o.py pb = false) (ha : SE Γ sc a pa) (hb : SE Γ sc b pb) : SE Γ sc (.cmp o a b) (.Compare pa [o.py] [pb] pos) := by
  obtain ⟨ta, pa', ra⟩ := ha
  obtain ⟨tb, pb', rb⟩ := hb
  refine ⟨tOp (rCmpD Γ.K o) ta tb, fun X hX => ?_, fun en st σ H ρ Q Xk R A V h O => ?_⟩
  · have q := pe_cmpR (pos := pos) (ob_cmp (X := X) (okx_hu hX) o) (pa' X hX) (pb' X hX) hm
    rw [hX.K] at q
    exact q
  · refine ra en st σ H ρ _ Xk _ A V h fun d st1 v H1 ρ1 A1 e1 r1 h1 => ?_
    refine rb en st1 σ H1 ρ1 _ Xk _ A1 (V.ext e1) h1 fun d2 st2 v2 H2 ρ2 A2 e2 r2 h2 => ?_
    refine ⟨ρ2, st2, d, d2, _, A2, r1.ext e2, r2, h2, fun t h3 => ?_⟩
    exact O _ st2 _ H2 ρ2 A2 (e1.trans e2) (rep_bl.mpr rfl) h3
theorem se_chain (o p : Cm) (hm : lastMarks [o.py, p.py] [pb, pc] = false) (ha : SE Γ sc a pa) (hb : SE Γ sc b pb) (hc : SE Γ sc c pc) : SE Γ sc (.chain o p a b c) (.Compare pa [o.py, p.py] [pb, pc] pos) := by
  obtain ⟨ta, pa', ra⟩ := ha
  obtain ⟨tb, pb', rb⟩ := hb
  obtain ⟨tc, pc', rc⟩ := hc
  refine ⟨tChain (rCmpD Γ.K o) (rCmpD Γ.K p) ta tb tc, fun X hX => ?_, fun en st σ H ρ Q Xk R A V h O => ?_⟩
  · have q := pe_chain (pos := pos) (ob_cmp (X := X) (okx_hu hX) o) (ob_cmp (X := X) (okx_hu hX) p) (pa' X hX) (pb' X hX) (pc' X hX) hm
    rw [hX.K] at q
    exact q
  · refine ra en st σ H ρ _ Xk _ A V h fun d st1 v H1 ρ1 A1 e1 r1 h1 => ?_
    refine rb en st1 σ H1 ρ1 _ Xk _ A1 (V.ext e1) h1 fun d2 st2 v2 H2 ρ2 A2 e2 r2 h2 => ?_
    refine ⟨ρ2, st2, d, d2, _, A2, r1.ext e2, r2, h2, fun t h3 => ⟨t, rfl, ?_⟩⟩
    cases t with
    | false => exact ite_ff (O _ st2 _ H2 ρ2 A2 (e1.trans e2) (rep_bl.mpr rfl) h3)
    | true =>
      refine ite_tt (rc en st2 σ H2 ρ2 _ Xk _ A2 (V.ext (e1.trans e2)) h3 fun d4 st4 v4 H4 ρ4 A4 e4 r4 h4 => ?_)
      exact ⟨ρ4, st4, d2, d4, _, A4, r2.ext e4, r4, h4, fun t h5 => O _ st4 _ H4 ρ4 A4 (e1.trans (e2.trans e4)) (rep_bl.mpr rfl) h5⟩
theorem se_not (ha : SE Γ sc a pa) : SE Γ sc (.not a) (.UnaryOp .Not pa pos) := by
  obtain ⟨ta, pa', ra⟩ := ha
  refine ⟨tNotT Γ.K ta, fun X hX => ?_, fun en st σ H ρ Q Xk R A V h O => ?_⟩
  · have q := pe_notT (pos := pos) (pa' X hX)
    rw [hX.K] at q
    exact q
  · refine ra en st σ H ρ _ Xk _ A V h fun d st1 v H1 ρ1 A1 e1 r1 h1 => ?_
    split at h1
    · rename_i t et
      exact ⟨t, A1.tru et r1, O _ _ _ _ _ A1 e1 (rep_bl.mpr rfl) h1⟩
    · exact False.elim h1
theorem se_and1 (rest : List Expr) (hr : rest ≠ []) (ha : SE Γ sc a pa) (hb : SE Γ sc b (.BoolOp .And rest pos)) : SE Γ sc (.and a b) (.BoolOp .And (pa :: rest) pos) := by
  obtain ⟨ta, pa', ra⟩ := ha
  obtain ⟨tb, pb', rb⟩ := hb
  cases rest with
  | nil => exact absurd rfl hr
  | cons y ys =>
  refine ⟨tAndT Γ.K ta tb, fun X hX => ?_, fun en st σ H ρ Q Xk R A V h O => ?_⟩
  · have q := pe_andT (pos := pos) (pa' X hX) (pb' X hX)
    rw [hX.K] at q
    exact q
  · refine ra en st σ H ρ _ Xk _ A V h fun d st1 v H1 ρ1 A1 e1 r1 h1 => ?_
    split at h1
    · rename_i t et
      refine ⟨t, A1.tru et r1, ?_⟩
      cases t with
      | true => exact ite_tt (rb en st1 σ H1 ρ1 _ Xk _ A1 (V.ext e1) h1 fun d2 st2 v2 H2 ρ2 A2 e2 r2 h2 => O _ _ _ _ _ A2 (e1.trans e2) r2 h2)
      | false => exact ite_ff (O _ _ _ _ _ A1 e1 r1 h1)
    · exact False.elim h1
theorem se_or1 (rest : List Expr) (hr : rest ≠ []) (ha : SE Γ sc a pa) (hb : SE Γ sc b (.BoolOp .Or rest pos)) : SE Γ sc (.or a b) (.BoolOp .Or (pa :: rest) pos) := by
  obtain ⟨ta, pa', ra⟩ := ha
  obtain ⟨tb, pb', rb⟩ := hb
  cases rest with
  | nil => exact absurd rfl hr
  | cons y ys =>
  refine ⟨tOrT Γ.K ta tb, fun X hX => ?_, fun en st σ H ρ Q Xk R A V h O => ?_⟩
  · have q := pe_orT (pos := pos) (pa' X hX) (pb' X hX)
    rw [hX.K] at q
    exact q
  · refine ra en st σ H ρ _ Xk _ A V h fun d st1 v H1 ρ1 A1 e1 r1 h1 => ?_
    split at h1
    · rename_i t et
      refine ⟨t, A1.tru et r1, ?_⟩
      cases t with
      | true => exact ite_tt (O _ _ _ _ _ A1 e1 r1 h1)
      | false => exact ite_ff (rb en st1 σ H1 ρ1 _ Xk _ A1 (V.ext e1) h1 fun d2 st2 v2 H2 ρ2 A2 e2 r2 h2 => O _ _ _ _ _ A2 (e1.trans e2) r2 h2)
    · exact False.elim h1
theorem se_one {op : BoolOp} (ha : SE Γ sc a pa) : SE Γ sc a (.BoolOp op [pa] pos) := by
  obtain ⟨ta, pa', ra⟩ := ha
  exact ⟨ta, fun X hX => pe_one (pa' X hX), ra⟩
theorem se_ite {c : T} (hc : ST Γ sc c pc) (ha : SE Γ sc a pa) (hb : SE Γ sc b pb) : SE Γ sc (.ite c a b) (.IfExp pc pa pb pos) := by
  obtain ⟨tc, pc', rc⟩ := hc
  obtain ⟨ta, pa', ra⟩ := ha
  obtain ⟨tb, pb', rb⟩ := hb
  refine ⟨tIf tc ta tb, fun X hX => pe_ifExp (pc' X hX) (pa' X hX) (pb' X hX), fun en st σ H ρ Q Xk R A V h O => ?_⟩
  refine rc en st σ H ρ _ Xk _ A V h fun t st1 H1 ρ1 A1 e1 h1 => ?_
  cases t with
  | true => exact ite_tt (ra en st1 σ H1 ρ1 _ Xk _ A1 (V.ext e1) h1 fun d2 st2 v2 H2 ρ2 A2 e2 r2 h2 => O _ _ _ _ _ A2 (e1.trans e2) r2 h2)
  | false => exact ite_ff (rb en st1 σ H1 ρ1 _ Xk _ A1 (V.ext e1) h1 fun d2 st2 v2 H2 ρ2 A2 e2 r2 h2 => O _ _ _ _ _ A2 (e1.trans e2) r2 h2)
theorem se_ix (hf : fine pi = true) (ha : SE Γ sc a pa) (hi : SE Γ sc i pi) : SE Γ sc (.ix a i) (.Subscript pa pi pos) := by
  obtain ⟨ta, pa', ra⟩ := ha
  obtain ⟨tb, pb', rb⟩ := hi
  refine ⟨tOp (rIxD Γ.K) ta tb, fun X hX => ?_, fun en st σ H ρ Q Xk R A V h O => ?_⟩
  · have q := pe_ix (pos := pos) (ob_ix (X := X) (by have := okx_hu hX; omega)) (pa' X hX) (pb' X hX) (plainIx_of hf)
    rw [hX.K] at q
    exact q
  · refine ra en st σ H ρ _ Xk _ A V h fun d st1 v H1 ρ1 A1 e1 r1 h1 => ?_
    refine rb en st1 σ H1 ρ1 _ Xk _ A1 (V.ext e1) h1 fun d2 st2 v2 H2 ρ2 A2 e2 r2 h2 => ?_
    exact ⟨ρ2, st2, d, d2, Q, A2, r1.ext e2, r2, h2, fun d3 st3 v3 H3 ρ3 A3 e3 r3 h3 => O d3 st3 v3 H3 ρ3 A3 (e1.trans (e2.trans e3)) r3 h3⟩
/-- a part of a slice -/
def SO (Γ : Gam) (sc : Scope) (e : E) (pe : Option Expr) : Prop := ∃ t, (∀ X, Okx Γ sc X → PO X pe t) ∧ ∀ en st σ H ρ (Q : Option Int → Sto → Prop) Xk (R : Option Int → Hp → Prop), Ab Γ.K ρ st H → Evx Γ Xk ρ H en σ → wE Γ.C e en st (fun d st1 => match partD e.isNo d with
    | some l => Q l st1
    | none => False) Xk → (∀ l st' H' ρ', Ab Γ.K ρ' st' H' → Ex ρ H ρ' H' → Q l st' → R l H') → t σ H R
theorem so_no : SO Γ sc .no none := ⟨tNoPart, fun X _ => po_none, fun en st σ H ρ Q Xk R A V h O => O none st H ρ A Ex.refl h⟩
theorem so_some {e : E} {pe : Expr} (hn : e.isNo = false) (he : SE Γ sc e pe) : SO Γ sc e (some pe) := by
  obtain ⟨ta, pa', ra⟩ := he
  refine ⟨tPart ta, fun X hX => po_some (pa' X hX), fun en st σ H ρ Q Xk R A V h O => ?_⟩
  rw [hn] at h
  refine ra en st σ H ρ _ Xk _ A V h fun d st1 v H1 ρ1 A1 e1 r1 h1 => ?_
  cases d with
  | int i => cases rep_int.mp r1; exact ⟨i, rfl, O _ _ _ _ A1 e1 h1⟩
  | _ => exact False.elim h1
theorem se_sl {plo phi : Option Expr} {p2 : Pos} (ha : SE Γ sc a pa) (hl : SO Γ sc lo plo) (hh : SO Γ sc hi phi) : SE Γ sc (.sl a lo hi) (.Subscript pa (.Slice plo phi none p2) pos) := by
  obtain ⟨ta, pa', ra⟩ := ha
  obtain ⟨tl, pl', rl⟩ := hl
  obtain ⟨th, ph', rh⟩ := hh
  refine ⟨tSl (rSlD Γ.K) ta tl th, fun X hX => ?_, fun en st σ H ρ Q Xk R A V h O => ?_⟩
  · have q := pe_slice (pos := pos) (p2 := p2) (ob_sl (X := X)) (pa' X hX) (pl' X hX) (ph' X hX)
    rw [hX.K] at q
    exact q
  · refine ra en st σ H ρ _ Xk _ A V h fun d st1 v H1 ρ1 A1 e1 r1 h1 => ?_
    refine rl en st1 σ H1 ρ1 (fun l st2 => wE Γ.C hi en st2 (fun z st3 => match partD hi.isNo z with
        | some u => wSl d l u st3 Q
        | none => False) Xk) Xk _ A1 (V.ext e1) h1 fun l st2 H2 ρ2 A2 e2 h2 => ?_
    refine rh en st2 σ H2 ρ2 (fun u st3 => wSl d l u st3 Q) Xk _ A2 (V.ext (e1.trans e2)) h2 fun u st3 H3 ρ3 A3 e3 h3 => ?_
    exact ⟨ρ3, st3, d, Q, A3, (r1.ext e2).ext e3, h3, fun d4 st4 v4 H4 ρ4 A4 e4 r4 h4 => O d4 st4 v4 H4 ρ4 A4 (e1.trans (e2.trans (e3.trans e4))) r4 h4⟩
theorem sa_nil : SA Γ sc .nil [] := ⟨tNil, fun X _ => pa_nil, fun en st σ H ρ Q Xk R A V h O => O [] st [] H ρ A Ex.refl (reps_nil.mpr rfl) h⟩
theorem sa_cons {es : Es} {pes : List Expr} (hf : fine pa = true) (ha : SE Γ sc a pa) (hs : SA Γ sc es pes) : SA Γ sc (.cons a es) (pa :: pes) := by
  obtain ⟨ta, pa', ra⟩ := ha
  obtain ⟨tb, pb', rb⟩ := hs
  refine ⟨tCons ta tb, fun X hX => pa_cons (pa' X hX) (pb' X hX) (star_of hf _ _), fun en st σ H ρ Q Xk R A V h O => ?_⟩
  refine ra en st σ H ρ _ Xk _ A V h fun d st1 v H1 ρ1 A1 e1 r1 h1 => ?_
  exact rb en st1 σ H1 ρ1 _ Xk _ A1 (V.ext e1) h1 fun ds st2 vs H2 ρ2 A2 e2 r2 h2 => O _ _ _ _ _ A2 (e1.trans e2) (reps_cons.mpr ⟨v, vs, rfl, r1.ext e2, r2⟩) h2
theorem se_tup {es : Es} {pes : List Expr} {k : Nat} (hs : SA Γ sc es pes) : SE Γ sc (.tup es) (.Tuple pes k pos) := by
  obtain ⟨tb, pb', rb⟩ := hs
  refine ⟨tTup tb, fun X hX => pe_tup (pb' X hX), fun en st σ H ρ Q Xk R A V h O => ?_⟩
  refine rb en st σ H ρ _ Xk _ A V h fun ds st2 vs H2 ρ2 A2 e2 r2 h2 => ⟨Lm_line (by rw [← r2.length]; exact Nat.le_trans (shortL_le (mu_and h2).1) (by decide)), ?_⟩
  exact Out.newT (ρ := ρ2) (Q' := Q) (fun d3 st3 v3 H3 ρ3 A3 e3 r3 h3 => O d3 st3 v3 H3 ρ3 A3 (e2.trans e3) r3 h3) A2 r2 (mu_and h2).2
theorem se_lst {es : Es} {pes : List Expr} (hs : SA Γ sc es pes) : SE Γ sc (.lst es) (.List pes pos) := by
  obtain ⟨tb, pb', rb⟩ := hs
  refine ⟨tLst tb, fun X hX => pe_lst (pb' X hX), fun en st σ H ρ Q Xk R A V h O => ?_⟩
  refine rb en st σ H ρ _ Xk _ A V h fun ds st2 vs H2 ρ2 A2 e2 r2 h2 => ⟨Lm_line (by rw [← r2.length]; exact Nat.le_trans (shortL_le (mu_and h2).1) (by decide)), ?_⟩
  exact Out.newL (ρ := ρ2) (Q' := Q) (fun d3 st3 v3 H3 ρ3 A3 e3 r3 h3 => O d3 st3 v3 H3 ρ3 A3 (e2.trans e3) r3 h3) A2 r2 (mu_and h2).2
/-! ### dict displays -/
theorem ab_newK {K : PySem.W.Frag} {ρ : List Addr} {H : Hp} {st : Sto} (A : Ab K ρ st H) {p : Addr} (hp : H p = none) : Ab K (ρ ++ [p]) (st ++ [.dK []]) (upd H p (.dK [])) :=
  A.newO hp ⟨[], upd_same, rfl, reps_nil.mpr rfl⟩
theorem ab_newT {K : PySem.W.Frag} {ρ : List Addr} {H : Hp} {st : Sto} (A : Ab K ρ st H) {p : Addr} (hp : H p = none) : Ab K (ρ ++ [p]) (st ++ [.dT []]) (upd H p (.dT [])) :=
  A.newO hp ⟨[], upd_same, rfl, reps_nil.mpr rfl⟩
theorem rho_last {ρ : List Addr} {p : Addr} {st : Sto} (h : ρ.length = st.length) : (ρ ++ [p])[st.length]? = some p := by
  rw [← h, List.getElem?_append_right (Nat.le_refl _), Nat.sub_self]; rfl
theorem se_dc0 : SE Γ sc .dc0 (.Dict [] [] pos) := by
  refine ⟨tDNewK, fun X hX => pe_dnewK, fun en st σ H ρ Q Xk R A V h O => ?_⟩
  intro p hp
  exact O _ _ _ _ _ (ab_newK A hp) (ex_new hp [p]) (rep_ref.mpr ⟨p, rho_last A.len, rfl⟩) h
theorem se_dcT : SE Γ sc .dcT (.Dict [] [] pos) := by
  refine ⟨tDNewT, fun X hX => pe_dnewT, fun en st σ H ρ Q Xk R A V h O => ?_⟩
  intro p hp
  exact O _ _ _ _ _ (ab_newT A hp) (ex_new hp [p]) (rep_ref.mpr ⟨p, rho_last A.len, rfl⟩) h
/-- the pairs, each value by its own reading -/
def SPs (Γ : Gam) (sc : Scope) (ks : List Key) (es : Es) (keys : List (Option Expr)) (pes : List Expr) : Prop := ∃ trs, (∀ X pos, Okx Γ sc X → PPs X pos keys pes trs) ∧ ∀ en st σ H ρ Q Xk R, Ab Γ.K ρ st H → Evx Γ Xk ρ H en σ → wEs Γ.C es en st Q Xk →
  (∀ ds st' vs H' ρ', Ab Γ.K ρ' st' H' → Ex ρ H ρ' H' → Reps Γ.K ρ' H' ds vs → ds.length = ks.length → Q ds st' → R ((ks.zip vs).map fun kv => (kV kv.1, kv.2)) H') → tPairs trs σ H R
def SEL (Γ : Gam) (sc : Scope) : Es → List Expr → Prop
  | .nil, [] => True
  | .cons e es, pe :: pes => SE Γ sc e pe ∧ SEL Γ sc es pes
  | _, _ => False
theorem sps_of {hx : True} : ∀ (ks : List Key) (es : Es) (keys : List (Option Expr)) (pes : List Expr), keysB ks keys = true → ks.length = pes.length → SEL Γ sc es pes → SPs Γ sc ks es keys pes
  | [], .nil, [], [], _, _, _ => ⟨[], fun X pos _ => pps_nil, fun en st σ H ρ Q Xk R A V h O => O [] st [] H ρ A Ex.refl (reps_nil.mpr rfl) rfl h⟩
  | k :: ks, .cons e es, ke :: keys, pe :: pes, hk, hl, hs => by
    have hk' : (keyB k ke && keysB ks keys) = true := hk
    rw [Bool.and_eq_true] at hk'
    obtain ⟨trs, p1, r1⟩ := sps_of (hx := hx) ks es keys pes hk'.2 (by simpa using hl) hs.2
    obtain ⟨te, p2, r2⟩ := hs.1
    obtain ⟨kx, tk, ek, pk, rk⟩ : ∃ (kx : Expr) (tk : TE), ke = some kx ∧ (∀ X, PE X kx tk) ∧ ∀ σ H (Q : VK), Q (kV k) H → tk σ H Q := by
      cases ke with
      | none => cases k <;> exact absurd hk'.1 Bool.false_ne_true
      | some kx =>
        cases k with
        | inl i =>
          cases kx with
          | Constant c a b =>
            cases c with
            | int j =>
              have : i = j := of_decide_eq_true hk'.1
              subst this
              exact ⟨_, _, rfl, fun X => pe_int, fun σ H Q q => q⟩
            | _ => exact absurd hk'.1 Bool.false_ne_true
          | _ => exact absurd hk'.1 Bool.false_ne_true
        | inr x =>
          cases kx with
          | Constant c a b =>
            cases c with
            | str j =>
              have : x = j := of_decide_eq_true hk'.1
              subst this
              exact ⟨_, _, rfl, fun X => pe_str, fun σ H Q q => q⟩
            | _ => exact absurd hk'.1 Bool.false_ne_true
          | _ => exact absurd hk'.1 Bool.false_ne_true
    subst ek
    refine ⟨(tk, te) :: trs, fun X pos hX => pps_cons (pk X) (p2 X hX) (p1 X pos hX), fun en st σ H ρ Q Xk R A V h O => ?_⟩
    refine rk σ H _ ?_
    refine r2 en st σ H ρ _ Xk _ A V h fun d st1 v H1 ρ1 A1 e1 q1 h1 => ?_
    refine r1 en st1 σ H1 ρ1 _ Xk _ A1 (V.ext e1) h1 fun ds st2 vs H2 ρ2 A2 e2 q2 hl2 h2 => ?_
    exact O (d :: ds) st2 (v :: vs) H2 ρ2 A2 (e1.trans e2) (reps_cons.mpr ⟨v, vs, rfl, q1.ext e2, q2⟩) (by rw [List.length_cons, List.length_cons, hl2]) h2
  | [], .nil, [], _ :: _, _, hl, _ => by cases hl
  | [], .nil, _ :: _, _, hk, _, _ => by cases hk
  | [], .cons _ _, _, [], _, _, hs => hs.elim
  | [], .cons _ _, _, _ :: _, _, hl, _ => by cases hl
  | _ :: _, .nil, _, [], _, hl, _ => by cases hl
  | _ :: _, .nil, _, _ :: _, _, _, hs => hs.elim
  | _ :: _, .cons _ _, [], _, hk, _, _ => by cases hk
  | _ :: _, .cons _ _, _ :: _, [], _, hl, _ => by cases hl
theorem merge_rep {K : PySem.W.Frag} {ρ : List Addr} {H : Hp} : ∀ (ks : List Key) (ds : List D) (vs : List V) (kvs : List (Key × D)) (us : List (Key × V)), Reps K ρ H ds vs → KvR K ρ H kvs us →
    KvR K ρ H ((ks.zip ds).foldl (fun acc kv => dPut acc kv.1 kv.2) kvs) (mergeK us (ks.zip vs))
  | [], ds, vs, kvs, us, _, q => by rw [List.zip_nil_left, List.zip_nil_left]; exact q
  | k :: ks, [], vs, kvs, us, r, q => by rw [reps_nil] at r; subst r; rw [List.zip_nil_right, List.zip_nil_right]; exact q
  | k :: ks, d :: ds, vs, kvs, us, r, q => by
    obtain ⟨v, vs', rfl, r1, r2⟩ := reps_cons.mp r
    rw [List.zip_cons_cons, List.zip_cons_cons, List.foldl_cons]
    exact merge_rep ks ds vs' (dPut kvs k d) (putK us k v) r2 (q.put k r1)
theorem se_dct {ks : List Key} {es : Es} {keys : List (Option Expr)} {pes : List Expr} (hk : keysB ks keys = true) (hl : ks.length = pes.length) (h0 : keys ≠ []) (h15 : keys.length ≤ 15) (hall : keys.all (·.isSome) = true) (hkl : keys.length = pes.length) (hs : SEL Γ sc es pes) :
    SE Γ sc (.dct ks es) (.Dict keys pes pos) := by
  obtain ⟨trs, p1, r1⟩ := sps_of (hx := trivial) ks es keys pes hk hl hs
  refine ⟨tDisp trs, fun X hX => pe_disp (p1 X pos hX) hall hkl h0 h15, fun en st σ H ρ Q Xk R A V h O => ?_⟩
  intro p hp
  have e0 : Ex ρ H (ρ ++ [p]) (upd H p (.dK [])) := ex_new hp [p]
  refine r1 en _ σ _ _ _ Xk _ (ab_newK A hp) (V.ext e0) h fun ds st1 vs H1 ρ1 A1 e1 q1 hl1 h1 => ?_
  have h1' : (match st1[st.length]? with
    | some (.dK []) => Q (.ref st.length) (st1.set st.length (.dK ((ks.zip ds).foldl (fun acc kv => dPut acc kv.1 kv.2) [])))
    | _ => False) := h1
  split at h1'
  · rename_i e2
    have hr : ρ1[st.length]? = some p := e1.pre _ _ (rho_last A.len)
    obtain ⟨a, us, ea, hr', hH, q⟩ := A1.dK e2 (rep_ref.mpr ⟨p, hr, rfl⟩)
    cases ea
    cases q.nil_inv
    refine ⟨hH, ks.zip vs, rfl, by rw [List.length_zip]; omega, ?_⟩
    have e3 : Ex ρ1 H1 ρ1 (upd H1 p (.dK (mergeK [] (ks.zip vs)))) := ex_wrO hH rfl
    have m := merge_rep ks ds vs [] [] q1 .nil
    refine O _ _ _ _ _ (A1.setO (o1 := .dK _) e2 rfl hr hH rfl ⟨_, upd_same, (m.ext e3).1, (m.ext e3).2⟩) (e0.trans (e1.trans e3)) (rep_ref.mpr ⟨p, hr, rfl⟩) h1'
  · exact False.elim h1'
theorem plain_of {pes : List Expr} (h : ∀ p ∈ pes, fine p = true) (pos : Pos) (env : Env) : (backTo pos (starEach pes env)).any (·.1) = false := by
  have go : ∀ pes : List Expr, (∀ p ∈ pes, fine p = true) → (starEach pes env).any (·.1) = false := by
    intro pes
    induction pes with
    | nil => intro _; rfl
    | cons p r ih =>
      intro h
      rw [star_of (h p List.mem_cons_self)]
      rw [List.any_cons, ih fun q hq => h q (List.mem_cons_of_mem _ hq)]
      rfl
  have e : (backTo pos (starEach pes env)).any (·.1) = (starEach pes env).any (·.1) := by
    unfold backTo
    rw [List.any_map]
    rfl
  rw [e]
  exact go pes h
end
end Q3

set_option Elab.async false
set_option linter.all false
set_option maxRecDepth 100000
set_option maxHeartbeats 4000000
/-! Q3h: calls, tests, walks, comprehensions. -/
namespace Q3
open PySem PySem.Spec PyProof.Rows L2
section
variable {Γ : Gam} {sc : Scope} {a b : E} {pa pb pc : Expr} {pos : Pos}
theorem fines_of {M : Nms} {N : List Str} : ∀ {es : Es} {pes : List Expr}, chkEs M N es sc pes = true → ∀ p ∈ pes, fine p = true
  | .nil, [], _ => by simp
  | .nil, _ :: _, h => by cases h
  | .cons _ _, [], h => by cases h
  | .cons e es, p :: pes, h => by
    have h' : (chkE M N e sc p && chkEs M N es sc pes) = true := h
    rw [Bool.and_eq_true] at h'
    intro q hq
    rcases List.mem_cons.mp hq with rfl | hq
    · exact fine_of h'.1
    · exact fines_of h'.2 q hq
/-- f(), what it raises wished for at the slots -/
theorem pe_callS0 {X : Cx} {CX : CXT} {k : Nat} {f : Addr} {fd : FuncData} {ps : List Str} {sp : Sp} {E : L2.St → XK} {x : Str} {p pos : Pos} (F : FnOk X.prog X.w X.K X.mg X.base CX k f fd ps sp) (hr : Room k X.A) (hg : Gl X x) (hm : X.mg x = some (.ref f)) (hk : PySem.W.keepIn X.K (.ref f) = true) (hb : Binds X.K fd ps []) (hx : ∀ σ, PassesAt CX X σ (E σ))
    (hdb : (x == ("__debug__" : Str)) = false) : PE X (.Call (.Name x p) [] [] pos) (tCallS sp E tNil) := by
  refine ⟨fun pins s σ H Q I h => ?_⟩
  refine wpAny_Call_Name_kw (ld_glob I hg hm ?_ hdb)
  exact PySem.W.callWith_K0 I.kIn hk (run_fnS (us := []) F hr hb (hx σ) I .nil h)
theorem se_call0 (G : GOk Γ) (hcm : Γ.M.calm = true) {f : Nat} {x : Str} {p : Pos} (h1 : Γ.M.F[f]? = some x) (h2 : gloB sc x = true) : SE Γ sc (.call f .nil) (.Call (.Name x p) [] [] pos) := by
  obtain ⟨fa, fd, ps, hm, hk, hb, hl, F⟩ := G.fn f x h1
  obtain ⟨g1, g2, g3⟩ := gloB_ok h2
  refine ⟨tCallS (spOf Γ.K Γ.cl ps.length (Γ.C.call f)) (WE Γ.W) tNil, fun X hX => ?_, fun en st σ H ρ Q Xk R A V h O => ?_⟩
  · have F' : FnOk X.prog X.w X.K X.mg X.base (L2.CX X.prog X.w) Γ.n fa fd ps (spOf Γ.K Γ.cl ps.length (Γ.C.call f)) := by
      rw [hX.P, hX.w, hX.K, hX.mg, hX.base]; exact F
    exact pe_callS0 F' (hX.room hcm) (gl_of hX g1) (by rw [hX.mg]; exact hm) (by rw [hX.K]; exact hk) (by rw [hX.K]; exact hb) (passAt hX.tk) g2
  · have h2' : Γ.C.call f [] st Q Xk := h
    exact ⟨hl _ _ _ _ h2', ρ, st, [], Q, Xk, A, reps_nil.mpr rfl, h2', O, V.ox⟩
theorem se_call (G : GOk Γ) (hcm : Γ.M.calm = true) {f : Nat} {x : Str} {p : Pos} {es : Es} {pe : Expr} {pes : List Expr} (h1 : Γ.M.F[f]? = some x) (h2 : gloB sc x = true) (hf : ∀ p ∈ pe :: pes, fine p = true) (hs : SA Γ sc es (pe :: pes)) :
    SE Γ sc (.call f es) (.Call (.Name x p) (pe :: pes) [] pos) := by
  obtain ⟨fa, fd, ps, hm, hk, hb, hl, F⟩ := G.fn f x h1
  obtain ⟨g1, g2, g3⟩ := gloB_ok h2
  obtain ⟨tb, pb', rb⟩ := hs
  refine ⟨tCallS (spOf Γ.K Γ.cl ps.length (Γ.C.call f)) (WE Γ.W) tb, fun X hX => ?_, fun en st σ H ρ Q Xk R A V h O => ?_⟩
  · have F' : FnOk X.prog X.w X.K X.mg X.base (L2.CX X.prog X.w) Γ.n fa fd ps (spOf Γ.K Γ.cl ps.length (Γ.C.call f)) := by
      rw [hX.P, hX.w, hX.K, hX.mg, hX.base]; exact F
    exact pe_callS F' (hX.room hcm) (gl_of hX g1) (by rw [hX.mg]; exact hm) (by rw [hX.K]; exact hk) (by rw [hX.K]; exact hb) (passAt hX.tk) (pb' X hX) g2 (star_of (hf pe List.mem_cons_self) _ _) (plain_of (fun q hq => hf q (List.mem_cons_of_mem _ hq)) _ _)
  · refine rb en st σ H ρ _ Xk _ A V h fun ds st2 vs H2 ρ2 A2 e2 r2 h2 => ?_
    have h2' : Γ.C.call f ds st2 Q Xk := h2
    exact ⟨by rw [← r2.length]; exact hl _ _ _ _ h2', ρ2, st2, ds, Q, Xk, A2, r2, h2', fun d3 st3 v3 H3 ρ3 A3 e3 r3 h3 => O d3 st3 v3 H3 ρ3 A3 (e2.trans e3) r3 h3, V.ox.ext e2⟩
theorem boot_min' : bootBuiltins "min" = some (.builtin "min") := by decide +kernel
theorem boot_max' : bootBuiltins "max" = some (.builtin "max") := by decide +kernel
theorem boot_len' : bootBuiltins "len" = some (.builtin "len") := by decide +kernel
theorem boot_all' : bootBuiltins "all" = some (.builtin "all") := by decide +kernel
theorem boot_any' : bootBuiltins "any" = some (.builtin "any") := by decide +kernel
theorem boot_sum' : bootBuiltins "sum" = some (.builtin "sum") := by decide +kernel
theorem boot_range' : bootBuiltins "range" = some (.type "range") := by decide +kernel
theorem se_bf (G : GOk Γ) (hcm : Γ.M.calm = true) (b : Bf) {x : Str} {p : Pos} {es : Es} {pe : Expr} {pes : List Expr} (h0 : x = b.nm) (h1 : x ∈ Γ.M.B) (h2 : gloB sc x = true) (hf : ∀ p ∈ pe :: pes, fine p = true) (hs : SA Γ sc es (pe :: pes)) :
    SE Γ sc (.bf b es) (.Call (.Name x p) (pe :: pes) [] pos) := by
  obtain ⟨g1, g2, g3⟩ := gloB_ok h2
  obtain ⟨tb, pb', rb⟩ := hs
  refine ⟨tCB (rBfD Γ.K b) tb, fun X hX => ?_, fun en st σ H ρ Q Xk R A V h O => ?_⟩
  · have hm : X.mg x = none := by rw [hX.mg]; exact G.bt x h1
    have hcb := ob_bf (X := X) (hX.calm hcm) b
    rw [hX.K] at hcb
    have s1 := star_of (hf pe List.mem_cons_self) pes X.env
    have s2 := plain_of (pos := pos) (fun q hq => hf q (List.mem_cons_of_mem pe hq)) X.env
    cases b with
    | len => exact pe_callB hcb (gl_of hX g1) hm (by rw [h0]; exact boot_len') (pb' X hX) g3 g2 s1 s2
    | all => exact pe_callB hcb (gl_of hX g1) hm (by rw [h0]; exact boot_all') (pb' X hX) g3 g2 s1 s2
    | any => exact pe_callB hcb (gl_of hX g1) hm (by rw [h0]; exact boot_any') (pb' X hX) g3 g2 s1 s2
    | sum => exact pe_callB hcb (gl_of hX g1) hm (by rw [h0]; exact boot_sum') (pb' X hX) g3 g2 s1 s2
    | min2 => exact pe_callB hcb (gl_of hX g1) hm (by rw [h0]; exact boot_min') (pb' X hX) g3 g2 s1 s2
    | max2 => exact pe_callB hcb (gl_of hX g1) hm (by rw [h0]; exact boot_max') (pb' X hX) g3 g2 s1 s2
    | int => exact pe_callTy hcb (gl_of hX g1) hm (by rw [h0]; exact PyProof.Rows.boot_int) (pb' X hX) g3 g2 s1 s2
    | str => exact pe_callTy hcb (gl_of hX g1) hm (by rw [h0]; exact PyProof.Rows.boot_str) (pb' X hX) g3 g2 s1 s2
    | list => exact pe_callTy hcb (gl_of hX g1) hm (by rw [h0]; exact PyProof.Rows.boot_list) (pb' X hX) g3 g2 s1 s2
    | tuple => exact pe_callTy hcb (gl_of hX g1) hm (by rw [h0]; exact PyProof.Rows.boot_tuple) (pb' X hX) g3 g2 s1 s2
  · refine rb en st σ H ρ _ Xk _ A V h fun ds st2 vs H2 ρ2 A2 e2 r2 h2 => ?_
    exact ⟨ρ2, st2, ds, Q, A2, r2, h2, fun d3 st3 v3 H3 ρ3 A3 e3 r3 h3 => O d3 st3 v3 H3 ρ3 A3 (e2.trans e3) r3 h3⟩
theorem plainObj_of {po : Expr} (h : plainObj po = true) (name : Str) (env : Env) : attributeBase po name env (eval po env) = eval po env := by
  cases po <;> first | rfl | cases h
theorem few_of {pes : List Expr} {cpos : Pos} {env : Env} (hf : ∀ p ∈ pes, fine p = true) (hl : pes.length < 29) : ((backTo cpos (starEach pes env)).all (fun x => !x.1) && (backToKw cpos (keywordEach [] env)).all (fun x => x.1.isSome)
      && decide (pes.length + ([] : List Keyword).length + (if ([] : List Keyword).isEmpty then 0 else 1) < 30)) = true := by
  have e1 : (backTo cpos (starEach pes env)).all (fun x => !x.1) = true := by
    have q := plain_of hf cpos env
    rw [List.any_eq_false] at q
    rw [List.all_eq_true]
    intro x hx
    have := q x hx
    simpa using this
  rw [e1]
  have e2 : decide (pes.length + ([] : List Keyword).length + (if ([] : List Keyword).isEmpty then 0 else 1) < 30) = true := decide_eq_true (by
    show pes.length + 0 + 0 < 30
    omega)
  rw [e2]
  rfl
/-! ### written dicts -/
theorem kdAt_str {kd : List (List (Str × D))} {k : Nat} {x : D} {o : Option D} (h : kdAt kd k x = some o) : ∃ z, x = .str z := by
  cases x with
  | str z => exact ⟨z, rfl⟩
  | _ => cases h
/-- what is found: a value that lies so at every time -/
def FoundV (K : PySem.W.Frag) (o : Option D) (v : V) : Prop := (o = none ∧ v = .non) ∨ ∃ dd, o = some dd ∧ ∀ ρ H, Rep K ρ H dd v
theorem kd_get {X : Cx} {d : Addr} {es : Array DictEntry} {A : Around} {E : Value → Shared → Prop} {Q : Value → Shared → Prop} {s : Shared} {z : Str} {t : Tok} {r : Option Value} (h : s.heap.MapOf (strKind X.prog X.w) d (fun k => findBy Value.isStrOf es k)) (low : (d == sysModules) = false)
    (hr : findBy Value.isStrOf es z = r) (q : Q (r.getD .none) { s with toks := s.toks + 1 }) : wpAny (model X.prog X.w) A (call (.builtin "dict.get") [.ref d, .str z t]) Q E s := by
  refine call_meetsIn PySem.F.slot_dict_get h.typeIs PySem.F.entry_dict_get (PySem.F.args_dict_get_2 _ _) (meets_dict_get (strKind X.prog X.w) d (strKind_is X.prog X.w z t) low) ⟨_, h, ?_⟩
  rw [hr]; exact q
def tKd (Γ : Gam) (k : Nat) (te : TE) (f : Option D → V → Hp → VK → Prop) : TE := fun σ H Q => te σ H fun y H1 => ∃ z o, y = .str z ∧ kdAt Γ.C.KD k (.str z) = some o ∧ ∀ v, FoundV Γ.K o v → f o v H1 Q
theorem se_kget (G : GOk Γ) {k : Nat} {e : E} {x : Str} {p apos : Pos} (h1 : Γ.M.Kn[k]? = some x) (h2 : gloB sc x = true) (hl : (apos.endLine == pos.line) = true) (hf : fine pa = true) (he : SE Γ sc e pa) : SE Γ sc (.kget k e) (.Call (.Attribute (.Name x p) "get" apos) [pa] [] pos) := by
  obtain ⟨g1, g2, g3⟩ := gloB_ok h2
  obtain ⟨te, pe', re⟩ := he
  obtain ⟨d, es, n, hm, KD, hv⟩ := G.kd k x h1
  refine ⟨tKd Γ k te fun _ v H Q => Q v H, fun X hX => ⟨fun pins s σ H Q I h => ?_⟩, fun en st σ H ρ Q Xk R A V h O => ?_⟩
  · have hm' : X.mg x = some (.ref d) := by rw [hX.mg]; exact hm
    have few := few_of (cpos := pos) (env := X.env) (pes := [pa]) (fun q hq => by rw [List.mem_singleton] at hq; rw [hq]; exact hf) (show 1 < 29 by decide)
    have tr : backTo pos (starEach [pa] X.env) = [(false, eval pa X.env)] := by rw [star_of hf]; rfl
    refine wpAny_Call_method (T := "dict") (plainObj_of rfl "get" X.env) few hl PySem.F.plainAttrs_dict PySem.F.slot_dict_get PySem.F.type_dict_get (ld_glob I (gl_of hX g1) hm' ?_ g2)
    have kI := I.kIn
    rw [hX.K] at kI
    have mp := PySem.W.mapOf_K (prog := X.prog) (w := X.w) kI KD.at_ (by rw [hX.w]; exact KD.lit)
    refine ⟨mp.typeIs, fun b q => ?_, ?_⟩
    · cases q
      exact ⟨_, kI _ _ KD.at_, rfl⟩
    rw [tr]
    refine Calls.callWith_builtin rfl (Calls.evalArgs_plain (Calls.spliced_cons (thn ((pe' X hX).run pins s σ H _ I h) fun iv s2 ⟨y, H2, I2, ry, z, o, ez, ho, q2⟩ => Calls.spliced_nil ?_)))
    subst ez
    obtain ⟨t, rfl⟩ := (show ∃ t, iv = Value.str z t from ry)
    have kI2 := I2.kIn
    rw [hX.K] at kI2
    have mp2 := PySem.W.mapOf_K (prog := X.prog) (w := X.w) kI2 KD.at_ (by rw [hX.w]; exact KD.lit)
    obtain ⟨r, hr, hc⟩ := hv z o ho
    refine kd_get mp2 KD.low (PySem.W.find_K KD.at_ hr) ?_
    rcases hc with ⟨rfl, rfl⟩ | ⟨dd, u, v, rfl, rfl, ru, rp⟩
    · exact ⟨.non, H2, I2.tok _, rfl, q2 .non (.inl ⟨rfl, rfl⟩)⟩
    · exact ⟨v, H2, I2.tok _, ru, q2 v (.inr ⟨dd, rfl, rp⟩)⟩
  · refine re en st σ H ρ _ Xk _ A V h fun y st1 v H1 ρ1 A1 e1 r1 h1' => ?_
    have h2' : (match kdAt Γ.C.KD k y with
      | some o => Q (o.getD .non) st1
      | none => False) := h1'
    split at h2'
    · rename_i o eo
      obtain ⟨z, rfl⟩ := kdAt_str eo
      refine ⟨z, o, (rep_str.mp r1).1, eo, fun v hv => ?_⟩
      rcases hv with ⟨rfl, rfl⟩ | ⟨dd, rfl, hd⟩
      · exact O _ _ _ _ _ A1 e1 (rep_non.mpr rfl) h2'
      · exact O _ _ _ _ _ A1 e1 (hd _ _) h2'
    · exact False.elim h2'
theorem se_kix (G : GOk Γ) {k : Nat} {e : E} {x : Str} {p : Pos} (h1 : Γ.M.Kn[k]? = some x) (h2 : gloB sc x = true) (hf : fine pa = true) (he : SE Γ sc e pa) : SE Γ sc (.kix k e) (.Subscript (.Name x p) pa pos) := by
  obtain ⟨g1, g2, g3⟩ := gloB_ok h2
  obtain ⟨te, pe', re⟩ := he
  obtain ⟨d, es, n, hm, KD, hv⟩ := G.kd k x h1
  refine ⟨tKd Γ k te fun o v H Q => o.isSome = true ∧ Q v H, fun X hX => ?_, fun en st σ H ρ Q Xk R A V h O => ?_⟩
  · have hm' : X.mg x = some (.ref d) := by rw [hX.mg]; exact hm
    refine ⟨fun pins s σ H Q I h => ?_⟩
    refine Subscript_ (ld_glob I (gl_of hX g1) hm' (thn ((pe' X hX).run pins s σ H _ I h) fun iv s2 ⟨y, H2, I2, ry, z, o, ez, ho, q2⟩ => ?_) g2)
    subst ez
    obtain ⟨t, rfl⟩ := (show ∃ t, iv = Value.str z t from ry)
    have kI2 := I2.kIn
    rw [hX.K] at kI2
    obtain ⟨r, hr, hc⟩ := hv z o ho
    have mp2 := PySem.W.mapOf_K (prog := X.prog) (w := X.w) kI2 KD.at_ (by rw [hX.w]; exact KD.lit)
    rcases hc with ⟨rfl, rfl⟩ | ⟨dd, u, v, rfl, rfl, ru, rp⟩
    · exact absurd (q2 .non (.inl ⟨rfl, rfl⟩)).1 Bool.false_ne_true
    · exact tail_any mp2.typeIs PySem.F.slot_dict_getitem.lookup (wpAny_getItem_of (strKind_is X.prog X.w z t) mp2 (PySem.W.find_K KD.at_ hr) ⟨v, H2, I2.tok _, ru, (q2 v (.inr ⟨dd, rfl, rp⟩)).2⟩) (plainIx_of hf _ _)
  · refine re en st σ H ρ _ Xk _ A V h fun y st1 v H1 ρ1 A1 e1 r1 h1' => ?_
    have h2' : (match kdAt Γ.C.KD k y with
      | some (some d) => Q d st1
      | _ => False) := h1'
    split at h2'
    · rename_i dd eo
      obtain ⟨z, rfl⟩ := kdAt_str eo
      refine ⟨z, some dd, (rep_str.mp r1).1, eo, fun v hv => ⟨rfl, ?_⟩⟩
      rcases hv with ⟨z, _⟩ | ⟨dd, z, hd⟩
      · cases z
      · cases z; exact O _ _ _ _ _ A1 e1 (hd _ _) h2'
    · exact False.elim h2'
def rKin (Γ : Gam) (d : Addr) (neg : Bool) (k : Nat) : R2 := fun y w H Q => w = .ref d ∧ ∃ z o, y = .str z ∧ kdAt Γ.C.KD k (.str z) = some o ∧ Q (.bl (neg != o.isSome)) H
theorem ob_kin {X : Cx} (hX : Okx Γ sc X) {neg : Bool} {k : Nat} {op : CmpOp} {d : Addr} {es : Array DictEntry} {n : Nat} (hop : op = if neg = true then .NotIn else .In) (KD : KDict Γ.K Γ.w d es n)
    (hv : ∀ z o, kdAt Γ.C.KD k (.str z) = some o → ∃ r, PySem.W.nsIn Γ.K d z = some r ∧ ((o = none ∧ r = none) ∨ ∃ dd u v, o = some dd ∧ r = some u ∧ RelV v u ∧ ∀ ρ H, Rep Γ.K ρ H dd v)) : OpR X (compareOp op) (rKin Γ d neg k) := by
  have KD' : KDict X.K X.w d es n := by rw [hX.K, hX.w]; exact KD
  intro pins s σ H y w v u Q I ry rw' ⟨ew, z, o, ey, ho, q⟩
  subst ew ey
  obtain ⟨r, hr, hs⟩ : ∃ r, PySem.W.nsIn X.K d z = some r ∧ r.isSome = o.isSome := by
    obtain ⟨r, hr, hc⟩ := hv z o ho
    refine ⟨r, by rw [hX.K]; exact hr, ?_⟩
    rcases hc with ⟨rfl, rfl⟩ | ⟨dd, u, v, rfl, rfl, _⟩ <;> rfl
  cases neg with
  | true =>
    subst hop
    refine op_notIn_kd KD' pins s σ H _ _ v u Q I ry rw' ⟨z, r, rfl, rfl, hr, ?_⟩
    rw [hs]
    have e : (!o.isSome) = (true != o.isSome) := by cases o.isSome <;> rfl
    rw [e]; exact q
  | false =>
    subst hop
    refine op_in_kd KD' pins s σ H _ _ v u Q I ry rw' ⟨z, r, rfl, rfl, hr, ?_⟩
    rw [hs]
    have e : o.isSome = (false != o.isSome) := by cases o.isSome <;> rfl
    rw [e]; exact q
theorem kin_mark {neg : Bool} {op : CmpOp} {x : Str} {p : Pos} (hop : op = if neg = true then .NotIn else .In) : behindInMarks op (.Name x p) = false := by cases neg <;> (subst hop; rfl)
theorem kin_run (G : GOk Γ) {neg : Bool} {k : Nat} {e : E} {en : En} {st : Sto} {σ : L2.St} {H : Hp} {ρ : List Addr} {Q : KD} {Xk : KX} {R : VK} {te : TE} {d : Addr}
    (re : ∀ en st σ H ρ Q Xk R, Ab Γ.K ρ st H → Evx Γ Xk ρ H en σ → wE Γ.C e en st Q Xk → Out Γ.K ρ H Q R → te σ H R) (A : Ab Γ.K ρ st H) (V : Evx Γ Xk ρ H en σ) (h : wE Γ.C (.kin neg k e) en st Q Xk) (O : Out Γ.K ρ H Q R) : tOp (rKin Γ d neg k) te (fun σ H Q => Q (.ref d) H) σ H R := by
  refine re en st σ H ρ _ Xk _ A V h fun y st1 v H1 ρ1 A1 e1 r1 h1' => ?_
  have h2' : (match kdAt Γ.C.KD k y with
    | some o => Q (.bl (neg != o.isSome)) st1
    | none => False) := h1'
  split at h2'
  · rename_i o eo
    obtain ⟨z, rfl⟩ := kdAt_str eo
    exact ⟨rfl, z, o, (rep_str.mp r1).1, eo, O _ _ _ _ _ A1 e1 (rep_bl.mpr rfl) h2'⟩
  · exact False.elim h2'
theorem se_kin (G : GOk Γ) {neg : Bool} {k : Nat} {e : E} {x : Str} {p : Pos} {op : CmpOp} (hop : op = if neg = true then .NotIn else .In) (h1 : Γ.M.Kn[k]? = some x) (h2 : gloB sc x = true) (he : SE Γ sc e pa) : SE Γ sc (.kin neg k e) (.Compare pa [op] [.Name x p] pos) := by
  obtain ⟨g1, g2, g3⟩ := gloB_ok h2
  obtain ⟨te, pe', re⟩ := he
  obtain ⟨d, es, n, hm, KD, hv⟩ := G.kd k x h1
  refine ⟨tOp (rKin Γ d neg k) te (fun σ H Q => Q (.ref d) H), fun X hX => ?_, fun en st σ H ρ Q Xk R A V h O => kin_run G re A V h O⟩
  have hm' : X.mg x = some (.ref d) := by rw [hX.mg]; exact hm
  exact pe_cmpR (pos := pos) (ob_kin hX hop KD hv) (pe' X hX) ⟨fun pins s σ H Q I h => ld_glob I (gl_of hX g1) hm' ⟨.ref d, H, I, rfl, h⟩ g2⟩ (kin_mark hop)
theorem st_kin (G : GOk Γ) {neg : Bool} {k : Nat} {e : E} {x : Str} {p : Pos} {op : CmpOp} (hop : op = if neg = true then .NotIn else .In) (h1 : Γ.M.Kn[k]? = some x) (h2 : gloB sc x = true) (he : SE Γ sc e pa) : ST Γ sc (.val (.kin neg k e)) (.Compare pa [op] [.Name x p] pos) := by
  obtain ⟨g1, g2, g3⟩ := gloB_ok h2
  obtain ⟨te, pe', re⟩ := he
  obtain ⟨d, es, n, hm, KD, hv⟩ := G.kd k x h1
  refine ⟨tTest (tOp (rKin Γ d neg k) te (fun σ H Q => Q (.ref d) H)), fun X hX => ?_, fun en st σ H ρ Q Xk R A V h O => ?_⟩
  · have hm' : X.mg x = some (.ref d) := by rw [hX.mg]; exact hm
    exact pt_cmpR (pos := pos) (ob_kin hX hop KD hv) (pe' X hX) ⟨fun pins s σ H Q I h => ld_glob I (gl_of hX g1) hm' ⟨.ref d, H, I, rfl, h⟩ g2⟩ (kin_mark hop)
  · refine re en st σ H ρ _ Xk _ A V h fun y st1 v H1 ρ1 A1 e1 r1 h1' => ?_
    have h2' : (match kdAt Γ.C.KD k y with
      | some o => Q (neg != o.isSome) st1
      | none => False) := h1'
    split at h2'
    · rename_i o eo
      obtain ⟨z, rfl⟩ := kdAt_str eo
      exact ⟨rfl, z, o, (rep_str.mp r1).1, eo, ⟨_, rfl, O _ st1 H1 ρ1 A1 e1 h2'⟩⟩
    · exact False.elim h2'
theorem tyV_of {K : PySem.W.Frag} {ρ : List Addr} {st : Sto} {H : Hp} (A : Ab K ρ st H) {m : Mt} {d : D} {v : V} (h : mtOk m st d = true) (r : Rep K ρ H d v) : tyV K m.ty v H := by
  cases d with
  | str z =>
    obtain ⟨rfl, _⟩ := rep_str.mp r
    cases m <;> first | rfl | cases h
  | ref n =>
    have h' : (!m.onStr && (if m.onDic = true then (dicLen st (.ref n)).isSome else (lstAt st n).isSome)) = true := h
    rw [Bool.and_eq_true] at h'
    by_cases hd : m.onDic = true
    · rw [if_pos hd] at h'
      obtain ⟨k, hk⟩ := Option.isSome_iff_exists.mp h'.2
      have hk' : (match st[n]? with
        | some (.dK kvs) => some kvs.length
        | _ => none) = some k := hk
      split at hk'
      · rename_i kvs e1
        obtain ⟨a, vs, rfl, _, hp, _⟩ := A.dK e1 r
        refine .inr (.inr (.inl ⟨?_, .inl ⟨vs, hp⟩⟩))
        cases m <;> first | rfl | (exfalso; exact Bool.false_ne_true hd)
      · cases hk'
    · rw [if_neg hd] at h'
      obtain ⟨ds, hds⟩ := Option.isSome_iff_exists.mp h'.2
      obtain ⟨p, vs, rfl, _, hs, _⟩ := A.lst hds r
      refine .inl ⟨?_, vs, hs⟩
      cases m <;> first | rfl | (exfalso; exact Bool.false_ne_true h'.1) | (exfalso; exact hd rfl)
  | _ => cases h
theorem se_mt (m : Mt) (hm : m ≠ .extend) {apos cpos : Pos} {es : Es} {pes : List Expr} (h1 : plainObj pa = true) (h2 : (apos.endLine == cpos.line) = true) (h3 : pes.length < 29) (hf : ∀ p ∈ pes, fine p = true)
    (h4 : pes = [] → es = .nil) (ha : SE Γ sc a pa) (hs : SA Γ sc es pes) : SE Γ sc (.mt m a es) (.Call (.Attribute pa m.nm apos) pes [] cpos) := by
  obtain ⟨ta, pa', ra⟩ := ha
  obtain ⟨tb, pb', rb⟩ := hs
  cases pes with
  | nil =>
    have e0 := h4 rfl
    subst e0
    refine ⟨tBM0 Γ.K m.ty (rMtD Γ.K m) ta, fun X hX => ?_, fun en st σ H ρ Q Xk R A V h O => ?_⟩
    · have hmt := ob_mt (X := X) (by have := okx_hu hX; omega) m hm
      rw [hX.K] at hmt
      have q1 := plainObj_of h1 m.nm X.env
      rw [← hX.K]
      rw [← hX.K] at hmt
      cases m with
      | append => exact pe_bm0 PySem.F.plainAttrs_list PySem.F.slot_list_append PySem.F.type_list_append hmt (pa' X hX) q1 h2
      | join => exact pe_bm0 PySem.F.plainAttrs_str PySem.F.slot_str_join PySem.F.type_str_join hmt (pa' X hX) q1 h2
      | split => exact pe_bm0 PySem.F.plainAttrs_str PySem.F.slot_str_split PySem.F.type_str_split hmt (pa' X hX) q1 h2
      | starts => exact pe_bm0 PySem.F.plainAttrs_str PySem.F.slot_str_startswith PySem.F.type_str_startswith hmt (pa' X hX) q1 h2
      | pop => exact pe_bm0 PySem.F.plainAttrs_list PySem.F.slot_list_pop PySem.F.type_list_pop hmt (pa' X hX) q1 h2
      | reverse => exact pe_bm0 PySem.F.plainAttrs_list PySem.F.slot_list_reverse PySem.F.type_list_reverse hmt (pa' X hX) q1 h2
      | get => exact pe_bm0 PySem.F.plainAttrs_dict PySem.F.slot_dict_get PySem.F.type_dict_get hmt (pa' X hX) q1 h2
      | index => exact pe_bm0 PySem.F.plainAttrs_str PySem.F.slot_str_index PySem.F.type_str_index hmt (pa' X hX) q1 h2
      | extend => exact absurd rfl hm
    · refine ra en st σ H ρ _ Xk _ A V h fun d st1 v H1 ρ1 A1 e1 r1 h1 => ?_
      obtain ⟨h5, h6⟩ := mu_and h1
      have h6' : wMt m d [] st1 Q := h6
      exact ⟨tyV_of A1 h5 r1, ρ1, st1, d, [], Q, A1, r1, reps_nil.mpr rfl, h6', fun d3 st3 v3 H3 ρ3 A3 e3 r3 h3 => O d3 st3 v3 H3 ρ3 A3 (e1.trans e3) r3 h3⟩
  | cons e r =>
    refine ⟨tBM Γ.K m.ty (rMtD Γ.K m) ta tb, fun X hX => ?_, fun en st σ H ρ Q Xk R A V h O => ?_⟩
    · have hmt := ob_mt (X := X) (by have := okx_hu hX; omega) m hm
      have q1 := plainObj_of h1 m.nm X.env
      rw [← hX.K]
      have q2 := few_of (cpos := cpos) (env := X.env) hf h3
      have s1 := star_of (hf e List.mem_cons_self) r X.env
      have s2 := plain_of (pos := cpos) (fun q hq => hf q (List.mem_cons_of_mem e hq)) X.env
      cases m with
      | append => exact pe_bm PySem.F.plainAttrs_list PySem.F.slot_list_append PySem.F.type_list_append hmt (pa' X hX) (pb' X hX) q1 q2 h2 s1 s2
      | join => exact pe_bm PySem.F.plainAttrs_str PySem.F.slot_str_join PySem.F.type_str_join hmt (pa' X hX) (pb' X hX) q1 q2 h2 s1 s2
      | split => exact pe_bm PySem.F.plainAttrs_str PySem.F.slot_str_split PySem.F.type_str_split hmt (pa' X hX) (pb' X hX) q1 q2 h2 s1 s2
      | starts => exact pe_bm PySem.F.plainAttrs_str PySem.F.slot_str_startswith PySem.F.type_str_startswith hmt (pa' X hX) (pb' X hX) q1 q2 h2 s1 s2
      | pop => exact pe_bm PySem.F.plainAttrs_list PySem.F.slot_list_pop PySem.F.type_list_pop hmt (pa' X hX) (pb' X hX) q1 q2 h2 s1 s2
      | reverse => exact pe_bm PySem.F.plainAttrs_list PySem.F.slot_list_reverse PySem.F.type_list_reverse hmt (pa' X hX) (pb' X hX) q1 q2 h2 s1 s2
      | get => exact pe_bm PySem.F.plainAttrs_dict PySem.F.slot_dict_get PySem.F.type_dict_get hmt (pa' X hX) (pb' X hX) q1 q2 h2 s1 s2
      | index => exact pe_bm PySem.F.plainAttrs_str PySem.F.slot_str_index PySem.F.type_str_index hmt (pa' X hX) (pb' X hX) q1 q2 h2 s1 s2
      | extend => exact absurd rfl hm
    · refine ra en st σ H ρ _ Xk _ A V h fun d st1 v H1 ρ1 A1 e1 r1 h1 => ?_
      obtain ⟨h5, h6⟩ := mu_and h1
      refine ⟨tyV_of A1 h5 r1, rb en st1 σ H1 ρ1 _ Xk _ A1 (V.ext e1) h6 fun ds st2 vs H2 ρ2 A2 e2 r2 h2 => ?_⟩
      exact ⟨ρ2, st2, d, ds, Q, A2, r1.ext e2, r2, h2, fun d3 st3 v3 H3 ρ3 A3 e3 r3 h3 => O d3 st3 v3 H3 ρ3 A3 (e1.trans (e2.trans e3)) r3 h3⟩

/-! ### isinstance -/
theorem kit_bt (n : String) (t : Ty) (h : t.isOwn = false) (hn : n = "NoneType" ∨ n = "bool" ∨ n = "int" ∨ n = "str" ∨ n = "tuple" ∨ n = "list" ∨ n = "dict") : kitB n t.nm = some (tyHit n t) := by
  cases t with
  | own c => cases h
  | _ => rcases hn with rfl | rfl | rfl | rfl | rfl | rfl | rfl <;> decide +kernel
theorem boot_isinstance' : bootBuiltins "isinstance" = some (.builtin "isinstance") := by decide +kernel
theorem boot_ty (t : Ty) (h : t.isOwn = false) : bootBuiltins (Str.ofString t.nm) = some (.type t.nm) := by
  cases t <;> first | (cases h; done) | decide +kernel
theorem tyN_ok {K : PySem.W.Frag} {ρ : List Addr} {st : Sto} {H : Hp} {d : D} {v : V} {n : String} (A : Ab K ρ st H) (h : tyN st d = some n) (r : Rep K ρ H d v) :
    TyX K H v (.type n) ∧ (n = "NoneType" ∨ n = "bool" ∨ n = "int" ∨ n = "str" ∨ n = "tuple" ∨ n = "list" ∨ n = "dict") := by
  cases d with
  | non => cases h; cases rep_non.mp r; exact ⟨.base .non, by simp⟩
  | bl b => cases h; cases rep_bl.mp r; exact ⟨.base (.bl b), by simp⟩
  | int i => cases h; cases rep_int.mp r; exact ⟨.base (.int i), by simp⟩
  | str x => cases h; obtain ⟨rfl, _⟩ := rep_str.mp r; exact ⟨.base (.str x), by simp⟩
  | tup xs =>
    cases h
    obtain ⟨a, vs, rfl, hs, _⟩ := rep_tup.mp r
    refine ⟨?_, by simp⟩
    rcases hs with (hs | ⟨o, hs⟩) | ⟨o, its, m, e1, e2, _⟩
    · exact .base (.tup hs)
    · exact .fTuple hs
    · exact .kTuple e1 e2
  | ref k =>
    have h' : (match st[k]? with
    | some (.lst _) => some "list"
    | some (.fls _) => some "list"
    | some (.dK _) => some "dict"
    | some (.dT _) => some "dict"
    | _ => none) = some n := h
    obtain ⟨a, ha, rfl⟩ := rep_ref.mp r
    cases q : st[k]? with
    | none => rw [q] at h'; cases h'
    | some o =>
      rw [q] at h'
      obtain ⟨b, hb, ro⟩ := A.get q
      rw [ha] at hb; cases hb
      cases o with
      | lst xs =>
        cases h'
        obtain ⟨vs, h1, _⟩ := ro
        exact ⟨.base (.lst h1), by simp⟩
      | fls xs =>
        cases h'
        obtain ⟨vs, h1, _⟩ := ro
        refine ⟨?_, by simp⟩
        rcases h1 with ⟨o, h1⟩ | ⟨o, its, m, e1, e2, _⟩
        · exact .base (.frz h1)
        · exact .kList e1 e2
      | dK _ =>
        cases h'
        obtain ⟨vs, h1, _⟩ := ro
        exact ⟨.base (.dK h1), by simp⟩
      | dT _ =>
        cases h'
        obtain ⟨vs, h1, _⟩ := ro
        exact ⟨.base (.dT h1), by simp⟩
      | ins _ _ => cases h'
theorem pe_ty {M : Nms} {t : Ty} {pe : Expr} (hM : Γ.M = M) (G : GOk Γ) (h : tyB M sc t pe = true) {X : Cx} (hX : Okx Γ sc X) : PE X pe (tC (L2.V.ty t.nm)) ∧ fine pe = true ∧ t.isOwn = false := by
  subst hM
  cases pe with
  | Name x p =>
    have h' : (decide (x = (Str.ofString t.nm)) && !t.isOwn && decide (x ∈ Γ.M.B) && gloB sc x) = true := h
    simp only [Bool.and_eq_true, decide_eq_true_eq, Bool.not_eq_true'] at h'
    obtain ⟨⟨⟨rfl, h1⟩, h2⟩, h3⟩ := h'
    obtain ⟨g1, g2, g3⟩ := gloB_ok h3
    exact ⟨pe_bltn (gl_of hX g1) (by rw [hX.mg]; exact G.bt _ h2) (boot_ty t h1) rfl g3 g2, rfl, h1⟩
  | _ => exact absurd h Bool.false_ne_true
theorem kitAny_of {K : PySem.W.Frag} {n : String} (hc : n = "NoneType" ∨ n = "bool" ∨ n = "int" ∨ n = "str" ∨ n = "tuple" ∨ n = "list" ∨ n = "dict") :
    ∀ {ts : List Ty}, (∀ t ∈ ts, t.isOwn = false) → PySem.W.kitAny K (.type n) (ts.map fun t => .type t.nm) = some (ts.any (tyHit n))
  | [], _ => kitAny_nil
  | t :: ts, h => by
    rw [List.any_cons]
    refine kitAny_cons (kit_ty (kit_bt n t (h t List.mem_cons_self) hc)) (fun e => ?_) fun e => ?_
    · rw [e]; exact kitAny_of hc fun t ht => h t (List.mem_cons_of_mem _ ht)
    · rw [e]; rfl
theorem pas_ty {M : Nms} (hM : Γ.M = M) (G : GOk Γ) {X : Cx} (hX : Okx Γ sc X) : ∀ {ts : List Ty} {pes : List Expr}, ts.length = pes.length → ((ts.zip pes).all fun p => tyB M sc p.1 p.2) = true →
    PA X pes (fun _ H Q => Q (ts.map fun t => L2.V.ty t.nm) H) ∧ (∀ p ∈ pes, fine p = true) ∧ ∀ t ∈ ts, t.isOwn = false
  | [], [], _, _ => ⟨pa_nil, by simp, by simp⟩
  | [], _ :: _, h, _ => by cases h
  | _ :: _, [], h, _ => by cases h
  | t :: ts, p :: ps, hl, h => by
    rw [List.zip_cons_cons, List.all_cons, Bool.and_eq_true] at h
    obtain ⟨p1, f1, o1⟩ := pe_ty hM G h.1 hX
    obtain ⟨p2, f2, o2⟩ := pas_ty hM G hX (by simpa using hl) h.2
    refine ⟨pa_cons p1 p2 (star_of f1 _ _), fun q hq => ?_, fun q hq => ?_⟩
    · rcases List.mem_cons.mp hq with rfl | hq
      · exact f1
      · exact f2 q hq
    · rcases List.mem_cons.mp hq with rfl | hq
      · exact o1
      · exact o2 q hq
theorem pair_ty (ts : List Ty) : Paired ClsV (ts.map fun t => L2.V.ty t.nm) (ts.map fun t => Value.type t.nm) := by
  induction ts with
  | nil => exact .nil
  | cons t ts ih => exact .cons (.ty _) ih
theorem tyB_own {M : Nms} {t : Ty} {pe : Expr} (h : tyB M sc t pe = true) : t.isOwn = false := by
  cases pe with
  | Name x p =>
    have h' : (decide (x = (Str.ofString t.nm)) && !t.isOwn && decide (x ∈ M.B) && gloB sc x) = true := h
    simp only [Bool.and_eq_true, Bool.not_eq_true'] at h'
    exact h'.1.1.2
  | _ => exact absurd h Bool.false_ne_true
theorem tyBs_own {M : Nms} : ∀ {ts : List Ty} {pes : List Expr}, ts.length = pes.length → ((ts.zip pes).all fun p => tyB M sc p.1 p.2) = true → ∀ t ∈ ts, t.isOwn = false
  | [], _, _, _ => by simp
  | _ :: _, [], h, _ => by cases h
  | t :: ts, p :: ps, hl, h => by
    rw [List.zip_cons_cons, List.all_cons, Bool.and_eq_true] at h
    intro q hq
    rcases List.mem_cons.mp hq with rfl | hq
    · exact tyB_own h.1
    · exact tyBs_own (by simpa using hl) h.2 q hq
theorem se_isi (G : GOk Γ) {ts : List Ty} {x : Str} {p : Pos} {pt : Expr} (h0 : x = "isinstance") (h1 : x ∈ Γ.M.B) (h2 : gloB sc x = true) (hf : fine pa = true) (ht : tysB Γ.M sc ts pt = true) (ha : SE Γ sc a pa) :
    SE Γ sc (.isi a ts) (.Call (.Name x p) [pa, pt] [] pos) := by
  obtain ⟨g1, g2, g3⟩ := gloB_ok h2
  obtain ⟨ta, pa', ra⟩ := ha
  have one : ∀ (t : Ty) (y : Str) (py : Pos), ts = [t] → pt = .Name y py → tyB Γ.M sc t pt = true → SE Γ sc (.isi a ts) (.Call (.Name x p) [pa, pt] [] pos) := by
    intro t y py e1 e2 hb
    subst e1
    refine ⟨tCB (rIsi Γ.K) (tCons ta (tCons (tC (L2.V.ty t.nm)) tNil)), fun X hX => ?_, fun en st σ H ρ Q Xk R A V h O => ?_⟩
    · obtain ⟨q1, f1, _⟩ := pe_ty rfl G hb hX
      have hcb := call_isi (X := X)
      rw [hX.K] at hcb
      exact pe_callB hcb (gl_of hX g1) (by rw [hX.mg]; exact G.bt _ h1) (by rw [h0]; exact boot_isinstance') (pa_cons (pa' X hX) (pa_cons q1 pa_nil (star_of f1 _ _)) (star_of hf _ _)) g3 g2 (star_of hf _ _)
        (plain_of (fun q hq => by rcases List.mem_cons.mp hq with rfl | hq; exact f1; simp at hq) _ _)
    · refine ra en st σ H ρ _ Xk _ A V h fun d st1 v H1 ρ1 A1 e1 r1 h1 => ?_
      split at h1
      · rename_i n hn
        obtain ⟨ty, hc⟩ := tyN_ok A1 hn r1
        have ho : t.isOwn = false := tyB_own hb
        have h1' : Q (.bl (tyHit n t)) st1 := by simpa using h1
        exact ⟨v, L2.V.ty t.nm, .type n, .type t.nm, tyHit n t, rfl, .ty _, ty, kit_ty (kit_bt n t ho hc), O _ _ _ _ _ A1 e1 (rep_bl.mpr rfl) h1'⟩
      · exact False.elim h1
  cases pt with
  | Name y py =>
    cases ts with
    | nil => exact absurd ht Bool.false_ne_true
    | cons t ts => cases ts with
      | nil => exact one t y py rfl rfl ht
      | cons _ _ => exact absurd ht Bool.false_ne_true
  | Tuple es k pk =>
    have ht' : (decide (ts.length = es.length) && decide (ts.length ≤ 1000) && (ts.zip es).all fun p => tyB Γ.M sc p.1 p.2) = true := by
      match ts, ht with
      | [], ht => exact ht
      | [_], ht => exact ht
      | _ :: _ :: _, ht => exact ht
    rw [Bool.and_eq_true, Bool.and_eq_true, decide_eq_true_eq, decide_eq_true_eq] at ht'
    obtain ⟨⟨hl, hl2⟩, hz⟩ := ht'
    refine ⟨tCB (rIsiT Γ.K) (tCons ta (tCons (tTup (fun _ H Q => Q (ts.map fun t => L2.V.ty t.nm) H)) tNil)), fun X hX => ?_, fun en st σ H ρ Q Xk R A V h O => ?_⟩
    · obtain ⟨q1, f1, _⟩ := pas_ty rfl G hX hl hz
      have hcb := call_isiT (X := X)
      rw [hX.K] at hcb
      exact pe_callB hcb (gl_of hX g1) (by rw [hX.mg]; exact G.bt _ h1) (by rw [h0]; exact boot_isinstance') (pa_cons (pa' X hX) (pa_cons (pe_tup q1) pa_nil rfl) (star_of hf _ _)) g3 g2 (star_of hf _ _)
        (plain_of (fun q hq => by rcases List.mem_cons.mp hq with rfl | hq; rfl; simp at hq) _ _)
    · refine ra en st σ H ρ _ Xk _ A V h fun d st1 v H1 ρ1 A1 e1 r1 h1 => ?_
      split at h1
      · rename_i n hn
        refine ⟨by rw [List.length_map]; exact Lm_line (by show _ ≤ 16777216; omega), fun tp hp => ?_⟩
        have e2 : Ex ρ1 H1 ρ1 (upd H1 tp (.tup (ts.map fun t => L2.V.ty t.nm))) := ex_new0 hp
        have A2 := A1.track (u := .tup (ts.map fun t => L2.V.ty t.nm)) hp
        obtain ⟨ty, hc⟩ := tyN_ok A2 hn (r1.ext e2)
        exact ⟨v, tp, _, .type n, _, _, rfl, upd_same, pair_ty ts, ty, kitAny_of hc (tyBs_own hl hz), O _ _ _ _ _ A2 (e1.trans e2) (rep_bl.mpr rfl) h1⟩
      · exact False.elim h1
  | _ => cases ts with
    | nil => exact absurd ht Bool.false_ne_true
    | cons t ts => cases ts <;> exact absurd ht Bool.false_ne_true

/-! ### tests -/
theorem st_val {e : E} {pe : Expr} (hp : ∀ env whole, isTrue pe env whole = (do let v ← whole; standAt pe.pos; holding [v] (truthy v))) (he : SE Γ sc e pe) : ST Γ sc (.val e) pe := by
  obtain ⟨ta, pa', ra⟩ := he
  refine ⟨fun σ H Q => ta σ H fun x H' => ∃ k, TruV Γ.K x H' k ∧ Q k H', fun X hX => ?_, fun en st σ H ρ Q Xk R A V h O => ?_⟩
  · rw [← hX.K]; exact pt_truth (pa' X hX) (hp _)
  · refine ra en st σ H ρ _ Xk _ A V h fun d st1 v H1 ρ1 A1 e1 r1 h1 => ?_
    split at h1
    · rename_i t et
      exact ⟨t, A1.tru et r1, O _ _ _ _ A1 e1 h1⟩
    · exact False.elim h1
theorem st_cmp (o : Cm) (hm : behindInMarks o.py pb = false) (ha : SE Γ sc a pa) (hb : SE Γ sc b pb) : ST Γ sc (.val (.cmp o a b)) (.Compare pa [o.py] [pb] pos) := by
  obtain ⟨ta, pa', ra⟩ := ha
  obtain ⟨tb, pb', rb⟩ := hb
  refine ⟨tTest (tOp (rCmpD Γ.K o) ta tb), fun X hX => ?_, fun en st σ H ρ Q Xk R A V h O => ?_⟩
  · have q := pt_cmpR (pos := pos) (ob_cmp (X := X) (okx_hu hX) o) (pa' X hX) (pb' X hX) hm
    rw [hX.K] at q
    exact q
  · refine ra en st σ H ρ _ Xk _ A V h fun d st1 v H1 ρ1 A1 e1 r1 h1 => ?_
    refine rb en st1 σ H1 ρ1 _ Xk _ A1 (V.ext e1) h1 fun d2 st2 v2 H2 ρ2 A2 e2 r2 h2 => ?_
    exact ⟨ρ2, st2, d, d2, _, A2, r1.ext e2, r2, h2, fun t h3 => ⟨t, rfl, O t st2 H2 ρ2 A2 (e1.trans e2) h3⟩⟩
theorem st_chain (o p : Cm) {c : E} (hm : lastMarks [o.py, p.py] [pb, pc] = false) (ha : SE Γ sc a pa) (hb : SE Γ sc b pb) (hc : SE Γ sc c pc) : ST Γ sc (.val (.chain o p a b c)) (.Compare pa [o.py, p.py] [pb, pc] pos) := by
  obtain ⟨ta, pa', ra⟩ := ha
  obtain ⟨tb, pb', rb⟩ := hb
  obtain ⟨tc, pc', rc⟩ := hc
  refine ⟨tTest (tChain (rCmpD Γ.K o) (rCmpD Γ.K p) ta tb tc), fun X hX => ?_, fun en st σ H ρ Q Xk R A V h O => ?_⟩
  · have q := pt_chain (pos := pos) (ob_cmp (X := X) (okx_hu hX) o) (ob_cmp (X := X) (okx_hu hX) p) (pa' X hX) (pb' X hX) (pc' X hX) hm
    rw [hX.K] at q
    exact q
  · refine ra en st σ H ρ _ Xk _ A V h fun d st1 v H1 ρ1 A1 e1 r1 h1 => ?_
    refine rb en st1 σ H1 ρ1 _ Xk _ A1 (V.ext e1) h1 fun d2 st2 v2 H2 ρ2 A2 e2 r2 h2 => ?_
    refine ⟨ρ2, st2, d, d2, _, A2, r1.ext e2, r2, h2, fun t h3 => ⟨t, rfl, ?_⟩⟩
    cases t with
    | false => exact ite_ff ⟨false, rfl, O false st2 H2 ρ2 A2 (e1.trans e2) h3⟩
    | true =>
      refine ite_tt (rc en st2 σ H2 ρ2 _ Xk _ A2 (V.ext (e1.trans e2)) h3 fun d4 st4 v4 H4 ρ4 A4 e4 r4 h4 => ?_)
      exact ⟨ρ4, st4, d2, d4, _, A4, r2.ext e4, r4, h4, fun t h5 => ⟨t, rfl, O t st4 H4 ρ4 A4 (e1.trans (e2.trans e4)) h5⟩⟩
/-- a chain of and, or, whatever its whole is -/
def SW (Γ : Gam) (sc : Scope) (c : T) (pc : Expr) : Prop := ∃ t, (∀ X, Okx Γ sc X → PW X pc t) ∧ ∀ en st σ H ρ Q Xk R, Ab Γ.K ρ st H → Evx Γ Xk ρ H en σ → wT Γ.C c en st Q Xk →
  (∀ b st' H' ρ', Ab Γ.K ρ' st' H' → Ex ρ H ρ' H' → Q b st' → R b H') → t σ H R
theorem SW.st {c : T} (h : SW Γ sc c pc) : ST Γ sc c pc := by
  obtain ⟨t, p, r⟩ := h
  exact ⟨t, fun X hX => (p X hX).pt, r⟩
theorem sw_and1 {c : T} (h : ST Γ sc c pa) : SW Γ sc c (.BoolOp .And [pa] pos) := by
  obtain ⟨t, p, r⟩ := h
  exact ⟨t, fun X hX => pw_and1 (p X hX), r⟩
theorem sw_or1 {c : T} (h : ST Γ sc c pa) : SW Γ sc c (.BoolOp .Or [pa] pos) := by
  obtain ⟨t, p, r⟩ := h
  exact ⟨t, fun X hX => pw_or1 (p X hX), r⟩
theorem sw_and {c d : T} {y : Expr} {ys : List Expr} (h1 : ST Γ sc c pa) (h2 : SW Γ sc d (.BoolOp .And (y :: ys) pos)) : SW Γ sc (.and c d) (.BoolOp .And (pa :: y :: ys) pos) := by
  obtain ⟨ta, pa', ra⟩ := h1
  obtain ⟨tb, pb', rb⟩ := h2
  refine ⟨tAnd ta tb, fun X hX => pw_and (pa' X hX) (pb' X hX), fun en st σ H ρ Q Xk R A V h O => ?_⟩
  refine ra en st σ H ρ _ Xk _ A V h fun t st1 H1 ρ1 A1 e1 h1 => ?_
  cases t with
  | true => exact ite_tt (rb en st1 σ H1 ρ1 _ Xk _ A1 (V.ext e1) h1 fun t2 st2 H2 ρ2 A2 e2 h2 => O _ _ _ _ A2 (e1.trans e2) h2)
  | false => exact ite_ff (O _ _ _ _ A1 e1 h1)
theorem sw_or {c d : T} {y : Expr} {ys : List Expr} (h1 : ST Γ sc c pa) (h2 : SW Γ sc d (.BoolOp .Or (y :: ys) pos)) : SW Γ sc (.or c d) (.BoolOp .Or (pa :: y :: ys) pos) := by
  obtain ⟨ta, pa', ra⟩ := h1
  obtain ⟨tb, pb', rb⟩ := h2
  refine ⟨tOr ta tb, fun X hX => pw_or (pa' X hX) (pb' X hX), fun en st σ H ρ Q Xk R A V h O => ?_⟩
  refine ra en st σ H ρ _ Xk _ A V h fun t st1 H1 ρ1 A1 e1 h1 => ?_
  cases t with
  | true => exact ite_tt (O _ _ _ _ A1 e1 h1)
  | false => exact ite_ff (rb en st1 σ H1 ρ1 _ Xk _ A1 (V.ext e1) h1 fun t2 st2 H2 ρ2 A2 e2 h2 => O _ _ _ _ A2 (e1.trans e2) h2)
theorem st_not {c : T} (h1 : ST Γ sc c pa) : ST Γ sc (.not c) (.UnaryOp .Not pa pos) := by
  obtain ⟨ta, pa', ra⟩ := h1
  exact ⟨tNot ta, fun X hX => pt_not (pa' X hX), fun en st σ H ρ Q Xk R A V h O => ra en st σ H ρ _ Xk _ A V h fun t st1 H1 ρ1 A1 e1 h1 => O _ _ _ _ A1 e1 h1⟩
end
end Q3

set_option Elab.async false
set_option linter.all false
set_option maxRecDepth 100000
set_option maxHeartbeats 4000000
/-! Q3i: walks, targets, comprehensions; the theorem for expressions. -/
namespace Q3
open PySem PySem.Spec PyProof.Rows L2
section
variable {X : Cx} {tg : Expr}
def iAny (K : PySem.W.Frag) (tl : TE) : TI := fun σ H R => tl σ H fun x H1 => (∃ a, x = .ref a ∧ (∃ xs, SqL K H1 a xs) ∧ R (Itl K a) H1) ∨ (∃ a, x = .ref a ∧ (∃ xs, SqT K H1 a xs) ∧ R (Itt K a) H1) ∨ ∃ z, x = .str z ∧ R (Its z) H1
theorem pi_any {l : Expr} {tl : TE} (hl : PE X l tl) : PI X tg l (iAny X.K tl) := by
  refine ⟨fun pins s σ H R I h => thn (hl.run pins s σ H _ I h) fun v s1 hq => ?_⟩
  obtain ⟨x, H1, I1, rel, hx⟩ := hq
  rcases hx with ⟨a, ex, ⟨xs, hs⟩, q⟩ | ⟨a, ex, ⟨xs, hs⟩, q⟩ | ⟨z, ex, q⟩
  · subst ex; cases rel
    obtain ⟨its, _, pl, _⟩ := I1.list hs
    exact wpAny_pyIter_list pl.isList (pi_one (tk := s1.toks) I1 _ (turn_list a _) ⟨_, Heap.get?_push_size _ rfl, rfl, rfl⟩ q)
  · subst ex; cases rel
    obtain ⟨its, _, pl, _⟩ := I1.tuple hs
    exact wpAny_pyIter_tuple (show s1.heap.IsTuple a its.toArray from pl) (pi_one (tk := s1.toks) I1 _ (turn_tuple a _) ⟨_, Heap.get?_push_size _ rfl, rfl, rfl⟩ q)
  · subst ex
    obtain ⟨t, rfl⟩ := rel
    cases hb : z.cps.all (· < 128)
    · exact wpAny_pyIter_wide hb (pi_one (tk := s1.toks) I1 _ (turn_str _ z t _ (.inr rfl)) ⟨_, Heap.get?_push_size _ rfl, rfl, rfl⟩ q)
    · exact wpAny_pyIter_ascii hb (pi_one (tk := s1.toks) I1 _ (turn_str _ z t _ (.inl rfl)) ⟨_, Heap.get?_push_size _ rfl, rfl, rfl⟩ q)
end
section
variable {K : PySem.W.Frag} {ρ : List Addr} {H : Hp} {st : Sto}
theorem walks_list {n : Nat} {ds : List D} {a : Addr} (ha : ρ[n]? = some a) : Walks K (Itl K a) ⟨[(n, ds)], ds⟩ ρ H := by
  intro ρ' st' H' A e hg i
  have hl : lstAt st' n = some ds := hg (n, ds) List.mem_cons_self
  obtain ⟨b, vs, eb, hb, hs, q⟩ := A.lst hl (rep_ref.mpr ⟨a, e.pre _ _ ha, rfl⟩)
  cases eb
  refine ⟨fun d hd => ?_, fun hi => ⟨vs, hs, by rw [← q.length]; exact Nat.le_of_eq hi⟩⟩
  obtain ⟨v, hv, rv⟩ := q.get hd
  refine ⟨⟨vs, v, hs, hv⟩, fun x H'' hy => ?_⟩
  obtain ⟨rfl, hy⟩ := hy
  have := hy vs hs
  rw [hv] at this
  cases this
  exact ⟨A, Ex.refl, rv⟩
theorem walks_tup {ds : List D} {vs : List V} {a : Addr} (hs : SqT K H a vs) (r : Reps K ρ H ds vs) : Walks K (Itt K a) ⟨[], ds⟩ ρ H := by
  intro ρ' st' H' A e hg i
  have hs' := e.sqT hs
  have r' := r.ext e
  refine ⟨fun d hd => ?_, fun hi => ⟨vs, hs', by rw [← r'.length]; exact Nat.le_of_eq hi⟩⟩
  obtain ⟨v, hv, rv⟩ := r'.get hd
  refine ⟨⟨vs, v, hs', hv⟩, fun x H'' hy => ?_⟩
  obtain ⟨rfl, hy⟩ := hy
  have := hy vs hs'
  rw [hv] at this
  cases this
  exact ⟨A, Ex.refl, rv⟩
theorem walks_str (z : Str) : Walks K (Its z) ⟨[], chars z⟩ ρ H := by
  intro ρ' st' H' A e hg i
  have hc : ∀ j : Nat, (chars z)[j]? = (z.cps[j]?).map fun c => D.str ⟨#[c]⟩ := fun j => by
    unfold chars
    rw [List.getElem?_map, Array.getElem?_toList]
  refine ⟨fun d hd => ?_, fun hi => ?_⟩
  · have hd' : (chars z)[i]? = some d := hd
    rw [hc i] at hd'
    cases q : z.cps[i]? with
    | none => rw [q] at hd'; cases hd'
    | some c =>
      rw [q] at hd'
      cases hd'
      have hlt : i < z.cps.size := by
        obtain ⟨h, _⟩ := Array.getElem?_eq_some_iff.mp q
        exact h
      refine ⟨hlt, fun x H'' hy => ?_⟩
      obtain ⟨rfl, c', hc', rfl⟩ := hy
      rw [q] at hc'
      cases hc'
      exact ⟨A, Ex.refl, rep_str.mpr ⟨rfl, (by show (1 : Nat) ≤ Lm; decide)⟩⟩
  · have hi' : (chars z).length = i := hi
    unfold chars at hi'
    rw [List.length_map, Array.length_toList] at hi'
    exact Nat.le_of_eq hi'
theorem walks_rng (lo : Int) (n : Nat) : Walks K (Itr lo n) ⟨[], rngL lo n⟩ ρ H := by
  intro ρ' st' H' A e hg i
  refine ⟨fun d hd => ?_, fun hi => ?_⟩
  · have hd' : (rngL lo n)[i]? = some d := hd
    unfold rngL at hd'
    rw [List.getElem?_map] at hd'
    by_cases hin : i < n
    · rw [List.getElem?_range hin] at hd'
      cases hd'
      refine ⟨hin, fun x H'' hy => ?_⟩
      obtain ⟨rfl, rfl⟩ := hy
      exact ⟨A, Ex.refl, rep_int.mpr rfl⟩
    · rw [List.getElem?_eq_none (by rw [List.length_range]; omega)] at hd'
      cases hd'
  · have hi' : (rngL lo n).length = i := hi
    unfold rngL at hi'
    rw [List.length_map, List.length_range] at hi'
    exact Nat.le_of_eq hi'
end
section
variable {Γ : Gam} {sc : Scope} {a b : E} {pa pb pc : Expr} {pos : Pos}
theorem si_seq (ha : SE Γ sc a pa) : SI Γ sc (.seq a) pa := by
  intro tg _
  obtain ⟨ta, pa', ra⟩ := ha
  refine ⟨iAny Γ.K ta, fun X hX => ?_, fun en st σ H ρ Q Xk R A V h O => ?_⟩
  · rw [← hX.K]; exact pi_any (pa' X hX)
  · refine ra en st σ H ρ _ Xk _ A V h fun d st1 v H1 ρ1 A1 e1 r1 h1 => ?_
    cases d with
    | tup xs =>
      obtain ⟨p, vs, rfl, s1, q1⟩ := rep_tup.mp r1
      exact .inr (.inl ⟨p, rfl, ⟨vs, s1⟩, O _ _ _ _ _ A1 e1 (walks_tup s1 q1) h1⟩)
    | str z =>
      obtain ⟨rfl, _⟩ := rep_str.mp r1
      exact .inr (.inr ⟨z, rfl, O _ _ _ _ _ A1 e1 (walks_str z) h1⟩)
    | ref n =>
      have h1' : (match lstAt st1 n with
        | some xs => Q ⟨[(n, xs)], xs⟩ st1
        | none => False) := h1
      split at h1'
      · rename_i xs ex
        obtain ⟨p, vs, rfl, hp, s1, q1⟩ := A1.lst ex r1
        exact .inl ⟨p, rfl, ⟨vs, s1⟩, O _ _ _ _ _ A1 e1 (walks_list hp) h1'⟩
      · exact False.elim h1'
    | _ => exact False.elim h1
theorem si_rng1 (G : GOk Γ) {x : Str} {p : Pos} (hx : x = "range") (h1 : x ∈ Γ.M.B) (h2 : gloB sc x = true) (hf : fine pa = true) (ha : SE Γ sc a pa) : SI Γ sc (.rng1 a) (.Call (.Name x p) [pa] [] pos) := by
  intro tg _
  obtain ⟨g1, g2, g3⟩ := gloB_ok h2
  subst hx
  obtain ⟨ta, pa', ra⟩ := ha
  refine ⟨iRng1 (tCons ta tNil), fun X hX => pi_range1 (gl_of hX g1) (by rw [hX.mg]; exact G.bt _ h1) (pa_cons (pa' X hX) pa_nil (star_of hf _ _)) (star_of hf _ _), fun en st σ H ρ Q Xk R A V h O => ?_⟩
  refine ra en st σ H ρ _ Xk _ A V h fun d st1 v H1 ρ1 A1 e1 r1 h1 => ?_
  cases d with
  | int j =>
    cases rep_int.mp r1
    obtain ⟨q0, q3⟩ := mu_and (show Mu (dec62 j) (Q ⟨[], rngL 0 j.toNat⟩ st1) from h1)
    obtain ⟨q1, q2⟩ := dec62_ok q0
    exact ⟨j, rfl, q1, q2, O _ _ _ _ _ A1 e1 (walks_rng 0 _) q3⟩
  | _ => exact False.elim h1
theorem si_rng2 (G : GOk Γ) {x : Str} {p : Pos} (hx : x = "range") (h1 : x ∈ Γ.M.B) (h2 : gloB sc x = true) (hf : fine pa = true) (hf2 : fine pb = true) (ha : SE Γ sc a pa) (hb : SE Γ sc b pb) : SI Γ sc (.rng2 a b) (.Call (.Name x p) [pa, pb] [] pos) := by
  intro tg _
  obtain ⟨g1, g2, g3⟩ := gloB_ok h2
  subst hx
  obtain ⟨ta, pa', ra⟩ := ha
  obtain ⟨tb, pb', rb⟩ := hb
  refine ⟨iRng2 (tCons ta (tCons tb tNil)), fun X hX => pi_range2 (gl_of hX g1) (by rw [hX.mg]; exact G.bt _ h1) (pa_cons (pa' X hX) (pa_cons (pb' X hX) pa_nil (star_of hf2 _ _)) (star_of hf _ _)) (by rw [star_of hf, star_of hf2]; rfl) (star_of hf2 _ _), fun en st σ H ρ Q Xk R A V h O => ?_⟩
  refine ra en st σ H ρ _ Xk _ A V h fun d st1 v H1 ρ1 A1 e1 r1 h1 => ?_
  refine rb en st1 σ H1 ρ1 _ Xk _ A1 (V.ext e1) h1 fun d2 st2 v2 H2 ρ2 A2 e2 r2 h2 => ?_
  cases d with
  | int i =>
    cases d2 with
    | int j =>
      cases rep_int.mp r1; cases rep_int.mp r2
      obtain ⟨q0, q6⟩ := mu_and (show Mu (dec62 i) (Mu (dec62 j) (Q ⟨[], rngL i (j - i).toNat⟩ st2)) from h2)
      obtain ⟨q7, q5⟩ := mu_and q6
      obtain ⟨q1, q2⟩ := dec62_ok q0
      obtain ⟨q3, q4⟩ := dec62_ok q7
      exact ⟨i, j, rfl, ⟨q1, q2, q3, q4⟩, O _ _ _ _ _ A2 (e1.trans e2) (walks_rng i _) q5⟩
    | _ => exact False.elim h2
  | _ => exact False.elim h2
theorem enumFrom_get : ∀ (xs : List D) (k i : Nat), (enumFrom k xs)[i]? = (xs[i]?).map fun d => .tup [.int ((k + i : Nat) : Int), d]
  | [], k, i => by simp [enumFrom]
  | x :: xs, k, 0 => by simp [enumFrom]
  | x :: xs, k, i + 1 => by
    rw [enumFrom, List.getElem?_cons_succ, List.getElem?_cons_succ, enumFrom_get xs (k + 1) i]
    rw [show k + 1 + i = k + (i + 1) by omega]
theorem enumL_get (xs : List D) (i : Nat) : (enumL xs)[i]? = (xs[i]?).map fun d => .tup [.int (i : Nat), d] := by
  unfold enumL
  rw [enumFrom_get]
  simp
theorem enumFrom_len : ∀ (xs : List D) (k : Nat), (enumFrom k xs).length = xs.length
  | [], _ => rfl
  | x :: xs, k => by rw [enumFrom, List.length_cons, List.length_cons, enumFrom_len]
theorem zipL_get : ∀ (xs ys : List D) (i : Nat) (d : D), (zipL xs ys)[i]? = some d → ∃ x y, xs[i]? = some x ∧ ys[i]? = some y ∧ d = .tup [x, y]
  | [], _, i, d, h => by rw [zipL_nl] at h; simp at h
  | _ :: _, [], i, d, h => by rw [zipL_ln] at h; simp at h
  | x :: xs, y :: ys, 0, d, h => by
    rw [zipL_cc, List.getElem?_cons_zero] at h
    cases h
    exact ⟨x, y, rfl, rfl, rfl⟩
  | x :: xs, y :: ys, i + 1, d, h => by
    rw [zipL_cc, List.getElem?_cons_succ] at h
    exact zipL_get xs ys i d h
theorem zipL_len : ∀ (xs ys : List D), (zipL xs ys).length = min xs.length ys.length
  | [], _ => by rw [zipL_nl]; simp
  | _ :: _, [] => by rw [zipL_ln]; simp
  | x :: xs, y :: ys => by rw [zipL_cc, List.length_cons, zipL_len, List.length_cons, List.length_cons]; omega
theorem pair_new {K : PySem.W.Frag} {ρ : List Addr} {H : Hp} {st : Sto} (A : Ab K ρ st H) {T : Addr} (hT : H T = none) {x y : V} {d e : D} (r1 : Rep K ρ H d x) (r2 : Rep K ρ H e y) :
    Ab K ρ st (upd H T (.tup [x, y])) ∧ Ex ρ H ρ (upd H T (.tup [x, y])) ∧ Rep K ρ (upd H T (.tup [x, y])) (.tup [d, e]) (.ref T) := by
  have e' : Ex ρ H ρ (upd H T (.tup [x, y])) := ex_new0 hT
  exact ⟨A.track hT, e', rep_tup.mpr ⟨T, [x, y], rfl, .inl (.inl upd_same), reps_cons.mpr ⟨x, [y], rfl, r1.ext e', reps_cons.mpr ⟨y, [], rfl, r2.ext e', reps_nil.mpr rfl⟩⟩⟩⟩
theorem walks_enum {K : PySem.W.Frag} {ρ : List Addr} {H : Hp} {n : Nat} {ds : List D} {a : Addr} (ha : ρ[n]? = some a) : Walks K (Ite K a) ⟨[(n, ds)], enumL ds⟩ ρ H := by
  intro ρ' st' H' A e hg i
  have hl : lstAt st' n = some ds := hg (n, ds) List.mem_cons_self
  obtain ⟨b, vs, eb, hb, hs, q⟩ := A.lst hl (rep_ref.mpr ⟨a, e.pre _ _ ha, rfl⟩)
  cases eb
  refine ⟨fun d hd => ?_, fun hi => ⟨vs, hs, by
    have hi' : (enumL ds).length = i := hi
    unfold enumL at hi'
    rw [enumFrom_len] at hi'
    rw [← q.length]; exact Nat.le_of_eq hi'⟩⟩
  have hd' : (enumL ds)[i]? = some d := hd
  rw [enumL_get] at hd'
  cases q0 : ds[i]? with
  | none => rw [q0] at hd'; cases hd'
  | some d0 =>
    rw [q0] at hd'
    cases hd'
    obtain ⟨v, hv, rv⟩ := q.get q0
    refine ⟨⟨vs, v, hs, hv⟩, fun x H'' hy => ?_⟩
    obtain ⟨T, x0, rfl, hT, rfl, hy⟩ := hy
    have := hy vs hs
    rw [hv] at this
    cases this
    exact pair_new A hT (rep_int.mpr rfl) rv
theorem si_enum (G : GOk Γ) {x : Str} {p : Pos} (hx : x = "enumerate") (h1 : x ∈ Γ.M.B) (h2 : gloB sc x = true) (hf : fine pa = true) (ha : SE Γ sc a pa) : SI Γ sc (.enum a) (.Call (.Name x p) [pa] [] pos) := by
  intro tg htg
  obtain ⟨g1, g2, g3⟩ := gloB_ok h2
  subst hx
  obtain ⟨ta, pa', ra⟩ := ha
  cases tg with
  | Tuple elts kk tpos =>
    refine ⟨iEnum Γ.K (tCons ta tNil), fun X hX => ?_, fun en st σ H ρ Q Xk R A V h O => ?_⟩
    · rw [← hX.K]
      exact pi_enum (gl_of hX g1) (by rw [hX.mg]; exact G.bt _ h1) (pa_cons (pa' X hX) pa_nil (star_of hf _ _)) (star_of hf _ _)
    · refine ra en st σ H ρ _ Xk _ A V h fun d st1 v H1 ρ1 A1 e1 r1 h1 => ?_
      cases d with
      | ref n =>
        have h1' : (match lstAt st1 n with
          | some xs => Q ⟨[(n, xs)], enumL xs⟩ st1
          | none => False) := h1
        split at h1'
        · rename_i xs ex
          obtain ⟨p, vs, rfl, hp, s1, q1⟩ := A1.lst ex r1
          exact ⟨p, vs, rfl, s1, O _ _ _ _ _ A1 e1 (walks_enum hp) h1'⟩
        · exact False.elim h1'
      | _ => exact False.elim h1
  | _ => exact absurd htg Bool.false_ne_true
theorem walks_rev {K : PySem.W.Frag} {ρ : List Addr} {H : Hp} {n : Nat} {ds : List D} {a : Addr} (ha : ρ[n]? = some a) : Walks K (Itv K a ds.length) ⟨[(n, ds)], ds.reverse⟩ ρ H := by
  intro ρ' st' H' A e hg i
  have hl : lstAt st' n = some ds := hg (n, ds) List.mem_cons_self
  obtain ⟨b, vs, eb, hb, hs, q⟩ := A.lst hl (rep_ref.mpr ⟨a, e.pre _ _ ha, rfl⟩)
  cases eb
  have W := walk_rev (K := K) (a := a) (xs := vs)
  rw [← q.length] at W
  refine ⟨fun d hd => ?_, fun hi => ?_⟩
  · have hd' : ds.reverse[i]? = some d := hd
    have hlt : i < ds.length := by
      have := (List.getElem?_eq_some_iff.mp hd').1
      rwa [List.length_reverse] at this
    refine ⟨W.goes i H' hlt hs, fun x H'' hy => ?_⟩
    obtain ⟨rfl, hv⟩ := W.yields i H' x H'' hlt hs hy
    rw [List.getElem?_reverse hlt] at hd'
    obtain ⟨v, hv', rv⟩ := q.get hd'
    rw [hv] at hv'
    cases hv'
    exact ⟨A, Ex.refl, rv⟩
  · have hi' : ds.reverse.length = i := hi
    rw [List.length_reverse] at hi'
    rw [← hi']
    exact W.stops H' hs
theorem si_rev (G : GOk Γ) {x : Str} {p : Pos} (hx : x = "reversed") (h1 : x ∈ Γ.M.B) (h2 : gloB sc x = true) (hf : fine pa = true) (ha : SE Γ sc a pa) : SI Γ sc (.rev a) (.Call (.Name x p) [pa] [] pos) := by
  intro tg htg
  obtain ⟨g1, g2, g3⟩ := gloB_ok h2
  subst hx
  obtain ⟨ta, pa', ra⟩ := ha
  refine ⟨iRev Γ.K (tCons ta tNil), fun X hX => ?_, fun en st σ H ρ Q Xk R A V h O => ?_⟩
  · rw [← hX.K]
    exact pi_reversed (gl_of hX g1) (by rw [hX.mg]; exact G.bt _ h1) (pa_cons (pa' X hX) pa_nil (star_of hf _ _)) (star_of hf _ _)
  · refine ra en st σ H ρ _ Xk _ A V h fun d st1 v H1 ρ1 A1 e1 r1 h1 => ?_
    cases d with
    | ref n =>
      have h1' : (match lstAt st1 n with
        | some xs => Q ⟨[(n, xs)], xs.reverse⟩ st1
        | none => False) := h1
      split at h1'
      · rename_i xs ex
        obtain ⟨p, vs, rfl, hp, s1, q1⟩ := A1.lst ex r1
        have l := q1.length
        have W := walks_rev (K := Γ.K) (H := H1) (ds := xs) hp
        rw [l] at W
        exact ⟨p, vs, rfl, s1, O _ _ _ _ _ A1 e1 W h1'⟩
      · exact False.elim h1'
    | _ => exact False.elim h1
theorem walks_zip {K : PySem.W.Frag} {ρ : List Addr} {H : Hp} {n m : Nat} {ds es : List D} {a b : Addr} (ha : ρ[n]? = some a) (hb : ρ[m]? = some b) : Walks K (Itz K a b) ⟨[(n, ds), (m, es)], zipL ds es⟩ ρ H := by
  intro ρ' st' H' A e hg i
  have hl : lstAt st' n = some ds := hg (n, ds) List.mem_cons_self
  have hl2 : lstAt st' m = some es := hg (m, es) (List.mem_cons_of_mem _ List.mem_cons_self)
  obtain ⟨_, vs, eb, _, hs, q⟩ := A.lst hl (rep_ref.mpr ⟨a, e.pre _ _ ha, rfl⟩)
  cases eb
  obtain ⟨_, us, eb, _, hs2, q2⟩ := A.lst hl2 (rep_ref.mpr ⟨b, e.pre _ _ hb, rfl⟩)
  cases eb
  have W := walk_zip (K := K) (a := a) (b := b) (xs := vs) (ys := us) rfl
  rw [← q.length, ← q2.length] at W
  refine ⟨fun d hd => ?_, fun hi => ?_⟩
  · have hd' : (zipL ds es)[i]? = some d := hd
    have hlt : i < min ds.length es.length := by
      have := (List.getElem?_eq_some_iff.mp hd').1
      rwa [zipL_len] at this
    obtain ⟨x0, y0, h1, h2, rfl⟩ := zipL_get _ _ _ _ hd'
    refine ⟨W.goes i H' hlt ⟨hs, hs2⟩, fun x H'' hy => ?_⟩
    obtain ⟨T, x, y, rfl, hT, rfl, hx, hy'⟩ := W.yields i H' x H'' hlt ⟨hs, hs2⟩ hy
    obtain ⟨v, hv, rv⟩ := q.get h1
    obtain ⟨u, hu, ru⟩ := q2.get h2
    have hx' : vs[i]? = some x := hx
    have hy2 : us[i]? = some y := hy'
    rw [hv] at hx'; cases hx'
    rw [hu] at hy2; cases hy2
    exact pair_new A hT rv ru
  · have hi' : (zipL ds es).length = i := hi
    rw [zipL_len] at hi'
    rw [← hi']
    exact W.stops H' ⟨hs, hs2⟩
theorem walks_zipT {K : PySem.W.Frag} {ρ : List Addr} {H : Hp} {ds es : List D} {vs us : List V} {a b : Addr} (hs : SqT K H a vs) (hs2 : SqT K H b us) (q : Reps K ρ H ds vs) (q2 : Reps K ρ H es us) : Walks K (RZ.ItzT K a b) ⟨[], zipL ds es⟩ ρ H := by
  intro ρ' st' H' A e hg i
  have hs := e.sqT hs
  have hs2 := e.sqT hs2
  have q := Reps.ext e ds vs q
  have q2 := Reps.ext e es us q2
  refine ⟨fun d hd => ?_, fun hi => ?_⟩
  · have hd' : (zipL ds es)[i]? = some d := hd
    have hlt : i < min ds.length es.length := by
      have := (List.getElem?_eq_some_iff.mp hd').1
      rwa [zipL_len] at this
    obtain ⟨x0, y0, h1, h2, rfl⟩ := zipL_get _ _ _ _ hd'
    obtain ⟨v, hv, rv⟩ := q.get h1
    obtain ⟨u, hu, ru⟩ := q2.get h2
    refine ⟨⟨vs, us, v, u, hs, hs2, hv, hu⟩, fun x H'' hy => ?_⟩
    obtain ⟨T, x, y, rfl, hT, rfl, hx, hy'⟩ := hy
    have hx' := hx vs hs
    have hy2 := hy' us hs2
    rw [hv] at hx'; cases hx'
    rw [hu] at hy2; cases hy2
    exact pair_new A hT rv ru
  · have hi' : (zipL ds es).length = i := hi
    rw [zipL_len] at hi'
    rw [← hi']
    exact ⟨vs, us, hs, hs2, by rw [← q.length, ← q2.length]; omega⟩
theorem si_zip (G : GOk Γ) {x : Str} {p : Pos} (hx : x = "zip") (h1 : x ∈ Γ.M.B) (h2 : gloB sc x = true) (hf : fine pa = true) (hf2 : fine pb = true) (ha : SE Γ sc a pa) (hb : SE Γ sc b pb) : SI Γ sc (.zip a b) (.Call (.Name x p) [pa, pb] [] pos) := by
  intro tg htg
  obtain ⟨g1, g2, g3⟩ := gloB_ok h2
  subst hx
  obtain ⟨ta, pa', ra⟩ := ha
  obtain ⟨tb, pb', rb⟩ := hb
  cases tg with
  | Tuple elts kk tpos =>
    refine ⟨RZ.iZipA Γ.K (tCons ta (tCons tb tNil)), fun X hX => ?_, fun en st σ H ρ Q Xk R A V h O => ?_⟩
    · rw [← hX.K]
      exact RZ.pi_zipA (gl_of hX g1) (by rw [hX.mg]; exact G.bt _ h1) (pa_cons (pa' X hX) (pa_cons (pb' X hX) pa_nil (star_of hf2 _ _)) (star_of hf _ _)) (star_of hf _ _) (plain_of (fun q hq => by rcases List.mem_cons.mp hq with rfl | hq; exact hf2; simp at hq) _ _)
    · refine ra en st σ H ρ _ Xk _ A V h fun d st1 v H1 ρ1 A1 e1 r1 h1 => ?_
      refine rb en st1 σ H1 ρ1 _ Xk _ A1 (V.ext e1) h1 fun d2 st2 v2 H2 ρ2 A2 e2 r2 h2 => ?_
      cases d with
      | ref n =>
        cases d2 with
        | ref m =>
          have h2' : (match lstAt st2 n, lstAt st2 m with
            | some xs, some ys => Q ⟨[(n, xs), (m, ys)], zipL xs ys⟩ st2
            | _, _ => False) := h2
          split at h2'
          · rename_i xs ys ex ey
            obtain ⟨p, vs, rfl, hp, s1, q1⟩ := A2.lst ex (r1.ext e2)
            obtain ⟨p', us, rfl, hp', s2, q2⟩ := A2.lst ey r2
            exact ⟨p, p', vs, us, rfl, .inl ⟨s1, s2, O _ _ _ _ _ A2 (e1.trans e2) (walks_zip hp hp') h2'⟩⟩
          · exact False.elim h2'
        | _ => exact False.elim h2
      | tup xs =>
        cases d2 with
        | tup ys =>
          obtain ⟨p, vs, rfl, s1, q1⟩ := rep_tup.mp (r1.ext e2)
          obtain ⟨p', us, rfl, s2, q2⟩ := rep_tup.mp r2
          exact ⟨p, p', vs, us, rfl, .inr ⟨s1, s2, O _ _ _ _ _ A2 (e1.trans e2) (walks_zipT s1 s2 q1 q2) h2⟩⟩
        | _ => exact False.elim h2
      | _ => exact False.elim h2
  | _ => exact absurd htg Bool.false_ne_true
end

/-! ### targets -/
structure OkT (N : List Str) (loc : Str → Bool) (K : PySem.W.Frag) (X : Cx) : Prop where
  N : X.N = N
  K : X.K = K
  calm : X.calm = true
  loc : ∀ x, loc x = true → Loc X.env.scope x ∧ (X.fn x = true ∨ X.env.scope.names.lookup x = some .local)
def TgOk (N : List Str) (loc : Str → Bool) (K : PySem.W.Frag) (g : Tg) (tg : Expr) : Prop := ∃ t, (∀ X, OkT N loc K X → PG X tg t) ∧ ∀ en σ ρ H d v en' R, Evn K ρ H en σ → Rep K ρ H d v → bindT g d en = some en' →
  (∀ σ', Evn K ρ H en' σ' → (∀ i : Nat, i ∉ g.slots → σ'[i]? = σ[i]?) → σ'.length = σ.length → R σ' H) → t v σ H R
section
variable {N : List Str} {loc : Str → Bool} {K : PySem.W.Frag}
theorem pg_of (nd : N.Nodup) {i : Nat} {x : Str} {p : Pos} (h1 : N[i]? = some x) (h2 : loc x = true) (X : Cx) (hX : OkT N loc K X) : PG X (.Name x p) (gName i) := by
  obtain ⟨q1, q2⟩ := hX.loc x h2
  exact pg_name (by rw [hX.N]; exact nd) (by rw [hX.N]; exact h1) q1 q2
def isNm : Expr → Bool
  | .Name _ _ => true
  | _ => false
theorem each_len (env : Env) : ∀ es : List Expr, es.all isNm = true → (assignEach es env).length = es.length ∧ (assignEach es env).findIdx? (·.1) = none
  | [], _ => ⟨rfl, rfl⟩
  | .Name x p :: r, h => by
    have h' : r.all isNm = true := by
      rw [List.all_cons, Bool.and_eq_true] at h
      exact h.2
    obtain ⟨h1, h2⟩ := each_len env r h'
    have e : assignEach (.Name x p :: r) env = (false, assign (.Name x p) env) :: assignEach r env := by rfl
    rw [e]
    refine ⟨by rw [List.length_cons, List.length_cons, h1], ?_⟩
    rw [List.findIdx?_cons, h2]
    rfl
theorem tgs_ok (nd : N.Nodup) : ∀ (is : List Nat) (es : List Expr), is.length = es.length → ((is.zip es).all fun p => match p.2 with
      | .Name x _ => decide (N[p.1]? = some x) && loc x
      | _ => false) = true → es.all isNm = true ∧ ∃ t : TGs, (∀ X, OkT N loc K X → PGs X es t) ∧ ∀ en σ ρ H ds vs en' R, Evn K ρ H en σ → Reps K ρ H ds vs → setAll is ds en = some en' →
        (∀ σ', Evn K ρ H en' σ' → (∀ i : Nat, i ∉ is → σ'[i]? = σ[i]?) → σ'.length = σ.length → R σ' H) → t vs σ H R
  | [], [], _, _ => by
    refine ⟨rfl, gNil, fun X _ => pgs_nil, fun en σ ρ H ds vs en' R V r h O => ?_⟩
    cases ds with
    | nil => cases h; rw [reps_nil] at r; exact ⟨r, O σ V (fun _ _ => rfl) rfl⟩
    | cons _ _ => cases h
  | [], _ :: _, h, _ => by cases h
  | _ :: _, [], h, _ => by cases h
  | i :: is, e :: es, hl, h => by
    rw [List.zip_cons_cons, List.all_cons, Bool.and_eq_true] at h
    obtain ⟨h1, h2⟩ := h
    obtain ⟨q1, t, pt, rt⟩ := tgs_ok nd is es (by simpa using hl) h2
    cases e with
    | Name x p =>
      have h1' : (decide (N[i]? = some x) && loc x) = true := h1
      rw [Bool.and_eq_true, decide_eq_true_eq] at h1'
      refine ⟨by rw [List.all_cons, q1]; rfl, gCons (gName i) t, fun X hX => pgs_cons (pg_of nd h1'.1 h1'.2 X hX) (pt X hX) rfl, fun en σ ρ H ds vs en' R V r hs O => ?_⟩
      cases ds with
      | nil => cases hs
      | cons d ds =>
        rw [reps_cons] at r
        obtain ⟨v, r', rfl, r1, r2⟩ := r
        have hs' : setAll is ds (en.set i (some d)) = some en' := hs
        refine ⟨v, r', rfl, ?_⟩
        refine rt (en.set i (some d)) (σ.set i (some v)) ρ H ds r' en' R (V.set i r1) r2 hs' fun σ' V' k l => O σ' V' (fun j hj => ?_) ?_
        · rw [List.mem_cons, not_or] at hj
          rw [k j hj.2, List.getElem?_set_ne (fun e => hj.1 e.symm)]
        · rw [l, List.length_set]
    | _ => exact absurd h1 Bool.false_ne_true
theorem tg_ok (nd : N.Nodup) {g : Tg} {tg : Expr} (h : chkTg N loc g tg = true) : TgOk N loc K g tg := by
  cases g with
  | nm i =>
    cases tg with
    | Name x p =>
      have h' : (decide (N[i]? = some x) && loc x) = true := h
      rw [Bool.and_eq_true, decide_eq_true_eq] at h'
      refine ⟨gName i, fun X hX => pg_of nd h'.1 h'.2 X hX, fun en σ ρ H d v en' R V r hb O => ?_⟩
      cases hb
      refine O _ (V.set i r) (fun j hj => ?_) (List.length_set ..)
      have hj' : j ∉ [i] := hj
      rw [List.mem_singleton] at hj'
      rw [List.getElem?_set_ne (fun e => hj' e.symm)]
    | _ => exact absurd h Bool.false_ne_true
  | tp is =>
    cases tg with
    | Tuple es k p =>
      have h' : (decide (is.length = es.length) && (is.zip es).all fun p => match p.2 with
        | .Name x _ => decide (N[p.1]? = some x) && loc x
        | _ => false) = true := h
      rw [Bool.and_eq_true, decide_eq_true_eq] at h'
      obtain ⟨q1, t, pt, rt⟩ := tgs_ok (K := K) nd is es h'.1 h'.2
      refine ⟨gTup K es.length t, fun X hX => ?_, fun en σ ρ H d v en' R V r hb O => ?_⟩
      · rw [← hX.K]
        exact pg_tup hX.calm (pt X hX) (each_len X.env es q1).1 (each_len X.env es q1).2
      · cases d with
        | tup ds =>
          have hb' : setAll is ds en = some en' := hb
          obtain ⟨a, vs, rfl, hs, rs⟩ := rep_tup.mp r
          have hlen : ∀ (is : List Nat) (ds : List D) (en : En), setAll is ds en = some en' → is.length = ds.length := by
            intro is
            induction is with
            | nil => intro ds en h; cases ds with
              | nil => rfl
              | cons _ _ => cases h
            | cons i is ih => intro ds en h; cases ds with
              | nil => cases h
              | cons d ds => rw [List.length_cons, List.length_cons, ih ds _ h]
          exact ⟨a, vs, rfl, hs, by rw [← rs.length, ← hlen is ds en hb', h'.1], rt en σ ρ H ds vs en' R V rs hb' O⟩
        | _ => cases hb
    | _ => exact absurd h Bool.false_ne_true
end
end Q3

set_option Elab.async false
set_option linter.all false
set_option maxRecDepth 100000
set_option maxHeartbeats 4000000
/-! Q3j: comprehensions; the theorem for expressions. -/
namespace Q3
open PySem PySem.Spec PyProof.Rows L2
theorem wipe_in {σ : L2.St} {i : Nat} : ∀ {vs : List Nat}, i ∈ vs → i < σ.length → (L2.wipe σ vs)[i]? = some none
  | [], h, _ => by simp at h
  | v :: vs, h, hl => by
    unfold L2.wipe
    by_cases hv : v = i
    · subst hv
      rw [List.getElem?_set_self (by rw [wipe_length]; exact hl)]
    · rw [List.getElem?_set_ne hv]
      exact wipe_in ((List.mem_cons.mp h).resolve_left fun e => hv e.symm) hl
theorem wipe_same {σ σ' : L2.St} {vs : List Nat} (hl : σ'.length = σ.length) (h : ∀ i : Nat, i ∉ vs → σ'[i]? = σ[i]?) : L2.wipe σ' vs = L2.wipe σ vs := by
  apply List.ext_getElem?
  intro i
  by_cases hi : i ∈ vs
  · by_cases hlt : i < σ.length
    · rw [wipe_in hi hlt, wipe_in hi (by rw [hl]; exact hlt)]
    · rw [List.getElem?_eq_none (by rw [wipe_length]; omega), List.getElem?_eq_none (by rw [wipe_length]; omega)]
  · rw [wipe_at hi, wipe_at hi, h i hi]
theorem wipe_idem (σ : L2.St) (vs : List Nat) : L2.wipe (L2.wipe σ vs) vs = L2.wipe σ vs := wipe_same (wipe_length _ _) fun i hi => wipe_at hi
section
variable {Γ : Gam} {sc : Scope} {elt : E} {pelt pit tg : Expr} {g : Tg} {it : I} {c : T} {ifs : List Expr} {scope : Scope} {pos : Pos}
/-- nothing is let out -/
abbrev Gam.noW (Γ : Gam) : Gam := { Γ with W := fun _ _ _ _ => False }
theorem GOk.noW (G : GOk Γ) : GOk Γ.noW := ⟨G.nd, G.gl, G.bt, G.fn, G.cex, G.kd⟩
theorem okx_blk {X : Cx} (G : GOk Γ) (hcm : Γ.M.calm = true) (h : Okx Γ sc X) (s : Shared) (H : Hp) (C : Addr) (cl : List (Str × Addr)) (fp : List Addr) : Okx Γ.noW (relS scope sc) (X.blk s H scope (compEnvC scope cl C X.env) fp) := by
  refine ⟨h.P, h.w, h.K, h.mg, h.base, h.N, ?_, h.calm, takes0, h.hu, h.room, fun x e => ?_⟩
  rotate_left
  · have e' : Γ.C.ex = some x := e
    rw [G.cex hcm] at e'; cases e'
  rw [← h.sc]
  rfl
theorem okt_blk {X : Cx} (hcm : Γ.M.calm = true) (h : Okx Γ sc X) (s : Shared) (H : Hp) (C : Addr) (cl : List (Str × Addr)) (fp : List Addr) : OkT Γ.N (locB scope) Γ.K (X.blk s H scope (compEnvC scope cl C X.env) fp) := by
  refine ⟨h.N, h.K, h.calm hcm, fun x hx => ?_⟩
  unfold locB at hx
  split at hx
  · rename_i e
    have q := lookup_relS_keep (sc := X.env.scope) (by decide : NameKind.local ≠ .free) e
    exact ⟨.inl q, .inr q⟩
  · rename_i e
    have q := lookup_relS_keep (sc := X.env.scope) (by decide : NameKind.cell ≠ .free) e
    refine ⟨.inr q, .inl ?_⟩
    show (scope.names.lookup x == some NameKind.cell) = true
    rw [e]
    rfl
  · cases hx
def STs (Γ : Gam) (sc : Scope) (c : T) (ifs : List Expr) : Prop := ∃ t, (∀ X, Okx Γ sc X → PTs X ifs t) ∧ ∀ en st σ H ρ Q Xk R, Ab Γ.K ρ st H → Evx Γ Xk ρ H en σ → wT Γ.C c en st Q Xk →
  (∀ b st' H' ρ', Ab Γ.K ρ' st' H' → Ex ρ H ρ' H' → Q b st' → R b H') → t σ H R
theorem sts_nil : STs Γ sc .yes [] := ⟨tYes, fun X _ => pts_nil, fun en st σ H ρ Q Xk R A V h O => O true st H ρ A Ex.refl h⟩
theorem sts_one {pc : Expr} (h : ST Γ sc c pc) : STs Γ sc c [pc] := by
  obtain ⟨t, p, r⟩ := h
  exact ⟨t, fun X hX => pts_one (p X hX), r⟩
abbrev lcOf (Γ : Gam) (sc : Scope) (elt : E) (g : Tg) (it : I) (c : T) (tg pit pelt : Expr) (ifs : List Expr) (scope : Scope) (own : List (Str × Nat)) : Prop :=
  ∃ wi gt tt te, (∀ X, Okx Γ sc X → PI X tg pit wi) ∧ (∀ X, Okx Γ sc X → ∀ (s : Shared) (H : Hp) (C : Addr) (cl : List (Str × Addr)) (fp : List Addr), PG (X.blk s H scope (compEnvC scope cl C X.env) fp) tg gt) ∧
    (∀ X, Okx Γ sc X → ∀ (s : Shared) (H : Hp) (C : Addr) (cl : List (Str × Addr)) (fp : List Addr), PTs (X.blk s H scope (compEnvC scope cl C X.env) fp) ifs tt) ∧
    (∀ X, Okx Γ sc X → ∀ (s : Shared) (H : Hp) (C : Addr) (cl : List (Str × Addr)) (fp : List Addr), PE (X.blk s H scope (compEnvC scope cl C X.env) fp) pelt te) ∧
    ∀ en st σ H ρ Q Xk R, Ab Γ.K ρ st H → Evx Γ Xk ρ H en σ → wE Γ.C (.comp elt g it c) en st Q Xk → Out Γ.K ρ H Q R → tLc wi gt tt te (own.map (·.2)) σ H R
theorem lc_of (G : GOk Γ) (hcm : Γ.M.calm = true) (htB : it.tgB tg = true) {own : List (Str × Nat)} (hi : SI Γ sc it pit) (ho : own.map (·.2) = g.slots) (ht : chkTg Γ.N (locB scope) g tg = true)
    (he : SE Γ.noW (relS scope sc) elt pelt) (hc : STs Γ.noW (relS scope sc) c ifs) : lcOf Γ sc elt g it c tg pit pelt ifs scope own := by
  obtain ⟨wi, pI, rI⟩ := hi tg htB
  obtain ⟨gt, pG, rG⟩ := tg_ok (K := Γ.K) G.nd ht
  obtain ⟨te, pE, rE⟩ := he
  obtain ⟨tt, pT, rT⟩ := hc
  refine ⟨wi, gt, tt, te, pI, fun X hX s H C cl fp => pG _ (okt_blk hcm hX s H C cl fp), fun X hX s H C cl fp => pT _ (okx_blk G hcm hX s H C cl fp), fun X hX s H C cl fp => pE _ (okx_blk G hcm hX s H C cl fp), fun en st σ H ρ Q Xk R A V h O => ?_⟩
  have h0 : wI Γ.C it en st (fun J st1 =>
      loopC J.gs (fun d st2 K => match bindT g d (wipeE en g.slots) with
        | some en' => wT Γ.C c en' st2 (fun t st3 => Br t (wE Γ.C elt en' st3 (fun y st4 => match st4[st1.length]? with
            | some (.lst acc) => acc.length < Lm ∧ K (st4.set st1.length (.lst (acc ++ [y])))
            | _ => False) noX) (K st3)) noX
        | none => False) J.xs (st1 ++ [.lst []]) fun st5 => Q (.ref st1.length) st5) Xk := h
  refine rI en st σ H ρ _ Xk _ A V h0 fun J j st1 H1 ρ1 A1 e1 wk h1 p0 hD => ?_
  rw [ho]
  have A2 : Ab Γ.K (ρ1 ++ [p0]) (st1 ++ [.lst []]) (upd H1 p0 (.lst [])) := A1.newL hD (reps_nil.mpr rfl)
  have e2 : Ex ρ1 H1 (ρ1 ++ [p0]) (upd H1 p0 (.lst [])) := ex_new hD [p0]
  have hD0 : (ρ1 ++ [p0])[st1.length]? = some p0 := by rw [← A1.len, List.getElem?_append_right (Nat.le_refl _), Nat.sub_self]; rfl
  generalize hbody : (fun (d : D) (st2 : Sto) (K : Sto → Prop) => match bindT g d (wipeE en g.slots) with
        | some en' => wT Γ.C c en' st2 (fun t st3 => Br t (wE Γ.C elt en' st3 (fun y st4 => match st4[st1.length]? with
            | some (.lst acc) => acc.length < Lm ∧ K (st4.set st1.length (.lst (acc ++ [y])))
            | _ => False) noX) (K st3)) noX
        | none => False) = body at h1
  refine ⟨fun i m H' => ∃ ρ' st', m = j.xs.length - i ∧ i ≤ j.xs.length ∧ Ab Γ.K ρ' st' H' ∧ Ex (ρ1 ++ [p0]) (upd H1 p0 (.lst [])) ρ' H' ∧ loopC j.gs body (j.xs.drop i) st' (fun st5 => Q (.ref st1.length) st5),
    ⟨j.xs.length, ρ1 ++ [p0], st1 ++ [.lst []], by simp, Nat.zero_le _, A2, Ex.refl, by rw [List.drop_zero]; exact h1⟩, ?_⟩
  rintro i m H' ⟨ρ', st', rfl, hi', A', e', hl⟩
  have eA : Ex ρ1 H1 ρ' H' := e2.trans e'
  by_cases hlt : i < j.xs.length
  · rw [List.drop_eq_getElem_cons hlt] at hl
    obtain ⟨hg, hb⟩ := hl
    obtain ⟨wk1, _⟩ := wk ρ' st' H' A' eA hg i
    obtain ⟨hgo, hy⟩ := wk1 _ (List.getElem?_eq_getElem hlt)
    refine .inr ⟨hgo, fun H'' => ∃ ρ'' st'', Ab Γ.K ρ'' st'' H'' ∧ Ex (ρ1 ++ [p0]) (upd H1 p0 (.lst [])) ρ'' H'' ∧ loopC j.gs body (j.xs.drop (i + 1)) st'' (fun st5 => Q (.ref st1.length) st5),
      fun H'' ⟨ρ'', st'', B1, B2, B3⟩ => ⟨j.xs.length - (i + 1), by omega, ρ'', st'', rfl, hlt, B1, B2, B3⟩, fun x Hx hyl => ?_⟩
    obtain ⟨A3, e3, r3⟩ := hy x Hx hyl
    rw [← hbody] at hb
    have hb' : (match bindT g j.xs[i] (wipeE en g.slots) with
        | some en' => wT Γ.C c en' st' (fun t st3 => Br t (wE Γ.C elt en' st3 (fun y st4 => match st4[st1.length]? with
            | some (.lst acc) => acc.length < Lm ∧ loopC j.gs body (j.xs.drop (i + 1)) (st4.set st1.length (.lst (acc ++ [y]))) (fun st5 => Q (.ref st1.length) st5)
            | _ => False) noX) (loopC j.gs body (j.xs.drop (i + 1)) st3 (fun st5 => Q (.ref st1.length) st5))) noX
        | none => False) := by rw [← hbody]; exact hb
    cases hbd : bindT g j.xs[i] (wipeE en g.slots) with
    | none => rw [hbd] at hb'; exact False.elim hb'
    | some en' =>
      rw [hbd] at hb'
      have V1 : Evn Γ.K ρ' Hx (wipeE en g.slots) (L2.wipe σ g.slots) := (V.ev.ext ((e1.trans eA).trans e3)).wipe _
      refine rG _ _ _ _ _ _ _ _ V1 r3 hbd fun σ2 V2 k2 l2 => ?_
      refine ⟨(wipe_same l2 k2).trans (wipe_idem σ g.slots), ?_⟩
      have V3 : Evx Γ.noW noX ρ' Hx en' σ2 := ⟨V2, OutX.no, fun x i e _ => by
        have e' : Γ.C.ex = some x := e
        rw [G.cex hcm] at e'; cases e'⟩
      refine rT en' st' σ2 Hx ρ' _ noX _ A3 V3 hb' fun t st3 H3 ρ3 A4 e4 h3 => ?_
      have eC : Ex (ρ1 ++ [p0]) (upd H1 p0 (.lst [])) ρ3 H3 := (e'.trans e3).trans e4
      cases t with
      | false => exact ite_ff ⟨ρ3, st3, A4, eC, h3⟩
      | true =>
        refine ite_tt (rE en' st3 σ2 H3 ρ3 _ noX _ A4 (V3.ext e4) h3 fun y st4 v H4 ρ4 A5 e5 r5 h4 => ?_)
        have h4' : (match st4[st1.length]? with
            | some (.lst acc) => acc.length < Lm ∧ loopC j.gs body (j.xs.drop (i + 1)) (st4.set st1.length (.lst (acc ++ [y]))) (fun st5 => Q (.ref st1.length) st5)
            | _ => False) := h4
        have hD4 : ρ4[st1.length]? = some p0 := (eC.trans e5).pre _ _ hD0
        split at h4'
        · rename_i acc ea
          obtain ⟨p, vs, ep, hp, hH, ra⟩ := A5.mlst ea (rep_ref.mpr ⟨p0, hD4, rfl⟩)
          cases ep
          refine ⟨vs, hH, Lm_lt (by rw [← ra.length]; exact h4'.1), ρ4, _, A5.setL ea hD4 hH (ra.append (reps_cons.mpr ⟨v, [], rfl, r5, reps_nil.mpr rfl⟩)), (eC.trans e5).trans (ex_wr hH), h4'.2⟩
        · exact False.elim h4'
  · have hn : i = j.xs.length := by omega
    subst hn
    rw [List.drop_length] at hl
    obtain ⟨hg, hq⟩ := hl
    obtain ⟨_, wk2⟩ := wk ρ' st' H' A' eA hg j.xs.length
    refine .inl ⟨wk2 rfl, O _ st' _ H' ρ' A' ((e1.trans eA)) (rep_ref.mpr ⟨p0, e'.pre _ _ hD0, rfl⟩) hq⟩
theorem se_comp (G : GOk Γ) (hcm : Γ.M.calm = true) {own : List (Str × Nat)} (hf : fine pit = true) (hb : blkC Γ.N sc scope own = true) (h : lcOf Γ sc elt g it c tg pit pelt ifs scope own) : SE Γ sc (.comp elt g it c) (.ListComp pelt [⟨tg, pit, ifs, 0⟩] scope pos) := by
  obtain ⟨wi, gt, tt, te, pI, pG, pT, pE, r⟩ := h
  refine ⟨tLc wi gt tt te (own.map (·.2)), fun X hX => ?_, r⟩
  exact pe_lc (hX.calm hcm) (by rw [hX.N]; exact G.nd) (pI X hX) (by rw [hX.N, hX.sc]; exact blkOk_by hb) (pG X hX) (pT X hX) (pE X hX) (fold_of hf _)
end

/-! ### the theorem -/
def T.isBool : T → Bool
  | .and _ _ => true
  | .or _ _ => true
  | _ => false
theorem bool_of {M : Nms} {N : List Str} {c : T} {sc : Scope} {op : BoolOp} {vs : List Expr} {p : Pos} (h : chkT M N c sc (.BoolOp op vs p) = true) : c.isBool = true := by
  cases c with
  | and _ _ => rfl
  | or _ _ => rfl
  | val e =>
    have h4 : (e.asVal && chkE M N e sc (.BoolOp op vs p)) = true := h
    simp only [Bool.and_eq_true] at h4
    cases e with
    | and _ _ => exact absurd h4.1 Bool.false_ne_true
    | or _ _ => exact absurd h4.1 Bool.false_ne_true
    | _ => cases op <;> exact absurd h4.2 Bool.false_ne_true
  | _ => cases op <;> exact absurd h Bool.false_ne_true
theorem comp_zero {M : Nms} {N : List Str} {elt : E} {g : Tg} {it : I} {c : T} {sc scope : Scope} {pelt tg pit : Expr} {ifs : List Expr} {ia : Int} {p : Pos} (h : chkE M N (.comp elt g it c) sc (.ListComp pelt [⟨tg, pit, ifs, ia⟩] scope p) = true) : ia = 0 := by
  cases ia with
  | ofNat n =>
    cases n with
    | zero => rfl
    | succ n => exact absurd h Bool.false_ne_true
  | negSucc n => exact absurd h Bool.false_ne_true
theorem so_no' {Γ : Gam} {sc : Scope} {e : E} (h : e.isNo = true) : SO Γ sc e none := by
  cases e <;> first | exact so_no | cases h
theorem fineI_of {M : Nms} {N : List Str} {it : I} {sc : Scope} {pe : Expr} (h : chkI M N it sc pe = true) : fine pe = true := by
  cases it with
  | seq e => exact fine_of h
  | rng1 a => cases pe <;> first | rfl | exact absurd h Bool.false_ne_true
  | rng2 a b => cases pe <;> first | rfl | exact absurd h Bool.false_ne_true
  | enum a => cases pe <;> first | rfl | exact absurd h Bool.false_ne_true
  | rev a => cases pe <;> first | rfl | exact absurd h Bool.false_ne_true
  | zip a b => cases pe <;> first | rfl | exact absurd h Bool.false_ne_true
mutual
theorem sndE : ∀ (e : E) (Γ : Gam) (G : GOk Γ) (sc : Scope) (pe : Expr), chkE Γ.M Γ.N e sc pe = true → SE Γ sc e pe
  | .var i, Γ, G, sc, pe, h => by
    cases pe with
    | Name x p =>
      have h' : (decide (Γ.N[i]? = some x) && visB sc x && !(x == ("__debug__" : Str)) && !(x == ("__classdict__" : Str))) = true := h
      simp only [Bool.and_eq_true, decide_eq_true_eq, Bool.not_eq_true'] at h'
      exact se_var h'.1.1.1 h'.1.1.2 h'.1.2 h'.2
    | _ => exact absurd h Bool.false_ne_true
  | .int i, Γ, G, sc, pe, h => by
    cases pe with
    | Constant v k p =>
      cases v with
      | int j =>
        have e : i = j := of_decide_eq_true h
        subst e
        exact se_int
      | _ => exact absurd h Bool.false_ne_true
    | _ => exact absurd h Bool.false_ne_true
  | .str x, Γ, G, sc, pe, h => by
    cases pe with
    | Constant v k p =>
      cases v with
      | str y =>
        have h' : (decide (x = y) && decide (x.length ≤ Lm)) = true := h
        simp only [Bool.and_eq_true, decide_eq_true_eq] at h'
        obtain ⟨e, hl⟩ := h'
        subst e
        exact se_str hl
      | _ => exact absurd h Bool.false_ne_true
    | _ => exact absurd h Bool.false_ne_true
  | .bl b, Γ, G, sc, pe, h => by
    cases pe with
    | Constant v k p =>
      cases v with
      | bool c =>
        have e : b = c := by
          have h' : (b == c) = true := h
          exact eq_of_beq h'
        subst e
        exact se_bl
      | _ => exact absurd h Bool.false_ne_true
    | _ => exact absurd h Bool.false_ne_true
  | .non, Γ, G, sc, pe, h => by
    cases pe with
    | Constant v k p =>
      cases v with
      | none => exact se_non
      | _ => exact absurd h Bool.false_ne_true
    | _ => exact absurd h Bool.false_ne_true
  | .glob k, Γ, G, sc, pe, h => by
    cases pe with
    | Name x p =>
      have h' : (decide (Γ.M.Gn[k]? = some x) && gloB sc x) = true := h
      simp only [Bool.and_eq_true, decide_eq_true_eq] at h'
      exact se_glob G h'.1 h'.2
    | _ => exact absurd h Bool.false_ne_true
  | .bin o a b, Γ, G, sc, pe, h => by
    cases pe with
    | BinOp pa op pb p =>
      have h' : (decide (op = o.py) && chkE Γ.M Γ.N a sc pa && chkE Γ.M Γ.N b sc pb) = true := h
      simp only [Bool.and_eq_true, decide_eq_true_eq] at h'
      obtain ⟨⟨rfl, h1⟩, h2⟩ := h'
      exact se_bin o (sndE a Γ G sc pa h1) (sndE b Γ G sc pb h2)
    | _ => exact absurd h Bool.false_ne_true
  | .neg a, Γ, G, sc, pe, h => by
    cases pe with
    | UnaryOp op pa p =>
      cases op with
      | USub => exact se_neg (sndE a Γ G sc pa h)
      | _ => exact absurd h Bool.false_ne_true
    | _ => exact absurd h Bool.false_ne_true
  | .cmp o a b, Γ, G, sc, pe, h => by
    cases pe with
    | Compare pa ops pbs p =>
      match ops, pbs, h with
      | [op], [pb], h =>
        have h' : (decide (op = o.py) && !behindInMarks op pb && chkE Γ.M Γ.N a sc pa && chkE Γ.M Γ.N b sc pb) = true := h
        simp only [Bool.and_eq_true, decide_eq_true_eq, Bool.not_eq_true'] at h'
        obtain ⟨⟨⟨rfl, h0⟩, h1⟩, h2⟩ := h'
        exact se_cmp o h0 (sndE a Γ G sc pa h1) (sndE b Γ G sc pb h2)
      | [], _, h => exact absurd h Bool.false_ne_true
      | [_], [], h => exact absurd h Bool.false_ne_true
      | [_], _ :: _ :: _, h => exact absurd h Bool.false_ne_true
      | _ :: _ :: _, _, h => exact absurd h Bool.false_ne_true
    | _ => exact absurd h Bool.false_ne_true
  | .chain o q a b c, Γ, G, sc, pe, h => by
    cases pe with
    | Compare pa ops pbs p =>
      match ops, pbs, h with
      | [op, op'], [pb, pc], h =>
        have h' : (decide (op = o.py) && decide (op' = q.py) && !lastMarks [op, op'] [pb, pc] && chkE Γ.M Γ.N a sc pa && chkE Γ.M Γ.N b sc pb && chkE Γ.M Γ.N c sc pc) = true := h
        simp only [Bool.and_eq_true, decide_eq_true_eq, Bool.not_eq_true'] at h'
        obtain ⟨⟨⟨⟨⟨rfl, rfl⟩, h0⟩, h1⟩, h2⟩, h3⟩ := h'
        exact se_chain o q h0 (sndE a Γ G sc pa h1) (sndE b Γ G sc pb h2) (sndE c Γ G sc pc h3)
      | [], _, h => exact absurd h Bool.false_ne_true
      | [_], _, h => exact absurd h Bool.false_ne_true
      | [_, _], [], h => exact absurd h Bool.false_ne_true
      | [_, _], [_], h => exact absurd h Bool.false_ne_true
      | [_, _], _ :: _ :: _ :: _, h => exact absurd h Bool.false_ne_true
      | _ :: _ :: _ :: _, _, h => exact absurd h Bool.false_ne_true
    | _ => exact absurd h Bool.false_ne_true
  | .and a b, Γ, G, sc, pe, h => by
    cases pe with
    | BoolOp op vs p =>
      cases op with
      | Or => exact absurd h Bool.false_ne_true
      | And =>
        match vs, h with
        | [pa, pb], h =>
          have h' : (chkE Γ.M Γ.N a sc pa && chkE Γ.M Γ.N b sc pb) = true := h
          simp only [Bool.and_eq_true] at h'
          exact se_and1 [pb] (by simp) (sndE a Γ G sc pa h'.1) (se_one (sndE b Γ G sc pb h'.2))
        | pa :: pb :: pc :: r, h =>
          have h' : (chkE Γ.M Γ.N a sc pa && chkE Γ.M Γ.N b sc (.BoolOp .And (pb :: pc :: r) p)) = true := h
          simp only [Bool.and_eq_true] at h'
          exact se_and1 (pb :: pc :: r) (by simp) (sndE a Γ G sc pa h'.1) (sndE b Γ G sc _ h'.2)
        | [], h => exact absurd h Bool.false_ne_true
        | [_], h => exact absurd h Bool.false_ne_true
    | _ => exact absurd h Bool.false_ne_true
  | .or a b, Γ, G, sc, pe, h => by
    cases pe with
    | BoolOp op vs p =>
      cases op with
      | And => exact absurd h Bool.false_ne_true
      | Or =>
        match vs, h with
        | [pa, pb], h =>
          have h' : (chkE Γ.M Γ.N a sc pa && chkE Γ.M Γ.N b sc pb) = true := h
          simp only [Bool.and_eq_true] at h'
          exact se_or1 [pb] (by simp) (sndE a Γ G sc pa h'.1) (se_one (sndE b Γ G sc pb h'.2))
        | pa :: pb :: pc :: r, h =>
          have h' : (chkE Γ.M Γ.N a sc pa && chkE Γ.M Γ.N b sc (.BoolOp .Or (pb :: pc :: r) p)) = true := h
          simp only [Bool.and_eq_true] at h'
          exact se_or1 (pb :: pc :: r) (by simp) (sndE a Γ G sc pa h'.1) (sndE b Γ G sc _ h'.2)
        | [], h => exact absurd h Bool.false_ne_true
        | [_], h => exact absurd h Bool.false_ne_true
    | _ => exact absurd h Bool.false_ne_true
  | .not a, Γ, G, sc, pe, h => by
    cases pe with
    | UnaryOp op pa p =>
      cases op with
      | Not => exact se_not (sndE a Γ G sc pa h)
      | _ => exact absurd h Bool.false_ne_true
    | _ => exact absurd h Bool.false_ne_true
  | .ite c a b, Γ, G, sc, pe, h => by
    cases pe with
    | IfExp pc pa pb p =>
      have h' : (chkT Γ.M Γ.N c sc pc && chkE Γ.M Γ.N a sc pa && chkE Γ.M Γ.N b sc pb) = true := h
      simp only [Bool.and_eq_true] at h'
      exact se_ite (sndT c Γ G sc pc h'.1.1).1 (sndE a Γ G sc pa h'.1.2) (sndE b Γ G sc pb h'.2)
    | _ => exact absurd h Bool.false_ne_true
  | .ix a i, Γ, G, sc, pe, h => by
    cases pe with
    | Subscript pa pi p =>
      have h' : (chkE Γ.M Γ.N a sc pa && chkE Γ.M Γ.N i sc pi) = true := h
      simp only [Bool.and_eq_true] at h'
      exact se_ix (fine_of h'.2) (sndE a Γ G sc pa h'.1) (sndE i Γ G sc pi h'.2)
    | _ => exact absurd h Bool.false_ne_true
  | .sl a lo hi, Γ, G, sc, pe, h => by
    cases pe with
    | Subscript pa pi p =>
      cases pi with
      | Slice pl ph ps p2 =>
        cases ps with
        | some z => exact absurd h Bool.false_ne_true
        | none =>
          have h' : (chkE Γ.M Γ.N a sc pa && oplB lo.isNo (fun p => chkE Γ.M Γ.N lo sc p) pl && oplB hi.isNo (fun p => chkE Γ.M Γ.N hi sc p) ph) = true := h
          rw [Bool.and_eq_true, Bool.and_eq_true] at h'
          obtain ⟨⟨k1, k2⟩, k3⟩ := h'
          have s1 : SO Γ sc lo pl := by
            cases pl with
            | none => exact so_no' k2
            | some z =>
              have k2' : (!lo.isNo && chkE Γ.M Γ.N lo sc z) = true := k2
              rw [Bool.and_eq_true, Bool.not_eq_true'] at k2'
              exact so_some k2'.1 (sndE lo Γ G sc z k2'.2)
          have s2 : SO Γ sc hi ph := by
            cases ph with
            | none => exact so_no' k3
            | some z =>
              have k2' : (!hi.isNo && chkE Γ.M Γ.N hi sc z) = true := k3
              rw [Bool.and_eq_true, Bool.not_eq_true'] at k2'
              exact so_some k2'.1 (sndE hi Γ G sc z k2'.2)
          exact se_sl (sndE a Γ G sc pa k1) s1 s2
      | _ => exact absurd h Bool.false_ne_true
    | _ => exact absurd h Bool.false_ne_true
  | .no, Γ, G, sc, pe, h => by cases pe <;> exact absurd h Bool.false_ne_true
  | .tup es, Γ, G, sc, pe, h => by
    cases pe with
    | Tuple pes k p => exact se_tup (sndEs es Γ G sc pes h)
    | _ => exact absurd h Bool.false_ne_true
  | .lst es, Γ, G, sc, pe, h => by
    cases pe with
    | List pes p => exact se_lst (sndEs es Γ G sc pes h)
    | _ => exact absurd h Bool.false_ne_true
  | .call f es, Γ, G, sc, pe, h => by
    cases pe with
    | Call fn pes kws p =>
      cases fn with
      | Name x p' =>
        cases kws with
        | nil =>
          have h' : (Γ.M.calm && decide (Γ.M.F[f]? = some x) && gloB sc x && chkEs Γ.M Γ.N es sc pes) = true := h
          simp only [Bool.and_eq_true, decide_eq_true_eq] at h'
          obtain ⟨⟨⟨hcm, h1⟩, h2⟩, h3⟩ := h'
          match es, pes, h3 with
          | .nil, [], _ => exact se_call0 G hcm h1 h2
          | .cons e r, pe :: pes, h3 => exact se_call G hcm h1 h2 (fines_of h3) (sndEs (.cons e r) Γ G sc (pe :: pes) h3)
          | .nil, _ :: _, h3 => exact absurd h3 Bool.false_ne_true
          | .cons _ _, [], h3 => exact absurd h3 Bool.false_ne_true
        | cons _ _ => exact absurd h Bool.false_ne_true
      | _ => cases kws <;> exact absurd h Bool.false_ne_true
    | _ => exact absurd h Bool.false_ne_true
  | .bf b es, Γ, G, sc, pe, h => by
    cases pe with
    | Call fn pes kws p =>
      cases fn with
      | Name x p' =>
        cases kws with
        | nil =>
          have h' : (Γ.M.calm && decide (x = b.nm) && decide (x ∈ Γ.M.B) && gloB sc x && !pes.isEmpty && chkEs Γ.M Γ.N es sc pes) = true := h
          simp only [Bool.and_eq_true, decide_eq_true_eq] at h'
          obtain ⟨⟨⟨⟨⟨hcm, h0⟩, h1⟩, h2⟩, h4⟩, h3⟩ := h'
          cases pes with
          | nil => exact absurd h4 (by simp)
          | cons pe pes => exact se_bf G hcm b h0 h1 h2 (fines_of h3) (sndEs es Γ G sc (pe :: pes) h3)
        | cons _ _ => exact absurd h Bool.false_ne_true
      | _ => cases kws <;> exact absurd h Bool.false_ne_true
    | _ => exact absurd h Bool.false_ne_true
  | .isi e ts, Γ, G, sc, pe, h => by
    cases pe with
    | Call fn pes kws p =>
      cases fn with
      | Name x p' =>
        match pes, kws, h with
        | [pa, pt], [], h =>
          have h' : (decide (x = "isinstance") && decide (x ∈ Γ.M.B) && gloB sc x && chkE Γ.M Γ.N e sc pa && tysB Γ.M sc ts pt) = true := h
          simp only [Bool.and_eq_true, decide_eq_true_eq] at h'
          obtain ⟨⟨⟨⟨h0, h1⟩, h2⟩, h3⟩, h4⟩ := h'
          exact se_isi G h0 h1 h2 (fine_of h3) h4 (sndE e Γ G sc pa h3)
        | [], _, h => exact absurd h Bool.false_ne_true
        | [_], _, h => exact absurd h Bool.false_ne_true
        | [_, _], _ :: _, h => exact absurd h Bool.false_ne_true
        | _ :: _ :: _ :: _, _, h => exact absurd h Bool.false_ne_true
      | _ => exact absurd h Bool.false_ne_true
    | _ => exact absurd h Bool.false_ne_true
  | .dct ks es, Γ, G, sc, pe, h => by
    cases pe with
    | Dict keys pes p =>
      have h' : (keysB ks keys && decide (ks.length = pes.length) && !keys.isEmpty && decide (keys.length ≤ 15) && keys.all (·.isSome) && decide (keys.length = pes.length) && chkEs Γ.M Γ.N es sc pes) = true := h
      simp only [Bool.and_eq_true, decide_eq_true_eq] at h'
      obtain ⟨⟨⟨⟨⟨⟨h1, h2⟩, h3⟩, h4⟩, h5⟩, h6⟩, h7⟩ := h'
      exact se_dct h1 h2 (by rintro rfl; exact Bool.false_ne_true h3) h4 h5 h6 (sndEL es Γ G sc pes h7)
    | _ => exact absurd h Bool.false_ne_true
  | .dc0, Γ, G, sc, pe, h => by
    cases pe with
    | Dict keys pes p =>
      match keys, pes, h with
      | [], [], _ => exact se_dc0
      | [], _ :: _, h => exact absurd h Bool.false_ne_true
      | _ :: _, _, h => exact absurd h Bool.false_ne_true
    | _ => exact absurd h Bool.false_ne_true
  | .dcT, Γ, G, sc, pe, h => by
    cases pe with
    | Dict keys pes p =>
      match keys, pes, h with
      | [], [], _ => exact se_dcT
      | [], _ :: _, h => exact absurd h Bool.false_ne_true
      | _ :: _, _, h => exact absurd h Bool.false_ne_true
    | _ => exact absurd h Bool.false_ne_true
  | .kget k e, Γ, G, sc, pe, h => by
    cases pe with
    | Call fn pes kws p =>
      cases fn with
      | Attribute po name apos =>
        cases po with
        | Name x p' =>
          match pes, kws, h with
          | [pa], [], h =>
            have h' : (decide (name = "get") && decide (Γ.M.Kn[k]? = some x) && gloB sc x && (apos.endLine == p.line) && chkE Γ.M Γ.N e sc pa) = true := h
            simp only [Bool.and_eq_true, decide_eq_true_eq] at h'
            obtain ⟨⟨⟨⟨rfl, h1⟩, h2⟩, h3⟩, h4⟩ := h'
            exact se_kget G h1 h2 h3 (fine_of h4) (sndE e Γ G sc pa h4)
          | [], _, h => exact absurd h Bool.false_ne_true
          | [_], _ :: _, h => exact absurd h Bool.false_ne_true
          | _ :: _ :: _, _, h => exact absurd h Bool.false_ne_true
        | _ => exact absurd h Bool.false_ne_true
      | _ => exact absurd h Bool.false_ne_true
    | _ => exact absurd h Bool.false_ne_true
  | .kix k e, Γ, G, sc, pe, h => by
    cases pe with
    | Subscript po pi p =>
      cases po with
      | Name x p' =>
        have h' : (decide (Γ.M.Kn[k]? = some x) && gloB sc x && chkE Γ.M Γ.N e sc pi) = true := h
        simp only [Bool.and_eq_true, decide_eq_true_eq] at h'
        exact se_kix G h'.1.1 h'.1.2 (fine_of h'.2) (sndE e Γ G sc pi h'.2)
      | _ => exact absurd h Bool.false_ne_true
    | _ => exact absurd h Bool.false_ne_true
  | .kin neg k e, Γ, G, sc, pe, h => by
    cases pe with
    | Compare pa ops pbs p =>
      match ops, pbs, h with
      | [op], [b], h =>
        cases b with
        | Name x p' =>
          have h' : (decide (op = if neg = true then .NotIn else .In) && decide (Γ.M.Kn[k]? = some x) && gloB sc x && chkE Γ.M Γ.N e sc pa) = true := h
          simp only [Bool.and_eq_true, decide_eq_true_eq] at h'
          exact se_kin G h'.1.1.1 h'.1.1.2 h'.1.2 (sndE e Γ G sc pa h'.2)
        | _ => exact absurd h Bool.false_ne_true
      | [op], [], h => exact absurd h Bool.false_ne_true
      | [op], b :: _ :: _, h => exact absurd h (by cases b <;> exact Bool.false_ne_true)
      | [], _, h => exact absurd h Bool.false_ne_true
      | _ :: _ :: _, _, h => exact absurd h Bool.false_ne_true
    | _ => exact absurd h Bool.false_ne_true
  | .exf f, Γ, G, sc, pe, h => by cases pe <;> exact absurd h Bool.false_ne_true
  | .isx ts, Γ, G, sc, pe, h => by cases pe <;> exact absurd h Bool.false_ne_true
  | .mt m o es, Γ, G, sc, pe, h => by
    cases pe with
    | Call fn pes kws p =>
      cases fn with
      | Attribute po name apos =>
        cases kws with
        | nil =>
          have h' : (decide (name = m.nm) && decide (m.id ≠ "list.extend") && plainObj po && (apos.endLine == p.line) && decide (pes.length < 29) && chkE Γ.M Γ.N o sc po && chkEs Γ.M Γ.N es sc pes) = true := h
          simp only [Bool.and_eq_true, decide_eq_true_eq] at h'
          obtain ⟨⟨⟨⟨⟨⟨rfl, h1⟩, h2⟩, h3⟩, h4⟩, h5⟩, h6⟩ := h'
          refine se_mt m (fun e => h1 (by rw [e]; rfl)) h2 h3 h4 (fines_of h6) (fun e => ?_) (sndE o Γ G sc po h5) (sndEs es Γ G sc pes h6)
          subst e
          cases es with
          | nil => rfl
          | cons _ _ => exact absurd h6 Bool.false_ne_true
        | cons _ _ => exact absurd h Bool.false_ne_true
      | _ => cases kws <;> exact absurd h Bool.false_ne_true
    | _ => exact absurd h Bool.false_ne_true
  | .comp elt g it c, Γ, G, sc, pe, h => by
    cases pe with
    | ListComp pelt gens scope p =>
      match gens, h with
      | [⟨tg, pit, ifs, ia⟩], h =>
        have hia : ia = 0 := comp_zero h
        subst hia
        have h' : (Γ.M.calm && it.tgB tg && chkI Γ.M Γ.N it sc pit && blkC Γ.N sc scope (ownOf g tg) && decide ((ownOf g tg).map (·.2) = g.slots) && chkTg Γ.N (locB scope) g tg && chkE Γ.M Γ.N elt (relS scope sc) pelt && ifsB c.isYes (fun p => chkT Γ.M Γ.N c (relS scope sc) p) ifs) = true := h
        simp only [Bool.and_eq_true, decide_eq_true_eq] at h'
        obtain ⟨⟨⟨⟨⟨⟨⟨hcm, htB⟩, h1⟩, h2⟩, h3⟩, h4⟩, h5⟩, h6⟩ := h'
        have hc : STs Γ.noW (relS scope sc) c ifs := by
          match ifs, h6 with
          | [], h6 => cases c <;> first | exact sts_nil | exact absurd h6 Bool.false_ne_true
          | [pc], h6 => exact sts_one (sndT c Γ.noW G.noW _ pc h6).1
          | _ :: _ :: _, h6 => exact absurd h6 Bool.false_ne_true
        exact se_comp G hcm (fineI_of h1) h2 (lc_of G hcm htB (sndI it Γ G sc pit h1) h3 h4 (sndE elt Γ.noW G.noW _ pelt h5) hc)
      | [], h => exact absurd h Bool.false_ne_true
      | ⟨_, _, _, ia⟩ :: _ :: _, h =>
        cases ia with
        | ofNat n => cases n <;> exact absurd h Bool.false_ne_true
        | negSucc n => exact absurd h Bool.false_ne_true
    | _ => exact absurd h Bool.false_ne_true
theorem sndEL : ∀ (es : Es) (Γ : Gam) (G : GOk Γ) (sc : Scope) (pes : List Expr), chkEs Γ.M Γ.N es sc pes = true → SEL Γ sc es pes
  | .nil, Γ, G, sc, [], h => trivial
  | .nil, Γ, G, sc, _ :: _, h => absurd h Bool.false_ne_true
  | .cons e es, Γ, G, sc, [], h => absurd h Bool.false_ne_true
  | .cons e es, Γ, G, sc, pe :: pes, h => by
    have h' : (chkE Γ.M Γ.N e sc pe && chkEs Γ.M Γ.N es sc pes) = true := h
    rw [Bool.and_eq_true] at h'
    exact ⟨sndE e Γ G sc pe h'.1, sndEL es Γ G sc pes h'.2⟩
theorem sndEs : ∀ (es : Es) (Γ : Gam) (G : GOk Γ) (sc : Scope) (pes : List Expr), chkEs Γ.M Γ.N es sc pes = true → SA Γ sc es pes
  | .nil, Γ, G, sc, [], h => sa_nil
  | .nil, Γ, G, sc, _ :: _, h => absurd h Bool.false_ne_true
  | .cons e es, Γ, G, sc, [], h => absurd h Bool.false_ne_true
  | .cons e es, Γ, G, sc, pe :: pes, h => by
    have h' : (chkE Γ.M Γ.N e sc pe && chkEs Γ.M Γ.N es sc pes) = true := h
    simp only [Bool.and_eq_true] at h'
    exact sa_cons (fine_of h'.1) (sndE e Γ G sc pe h'.1) (sndEs es Γ G sc pes h'.2)
theorem sndT : ∀ (c : T) (Γ : Gam) (G : GOk Γ) (sc : Scope) (pe : Expr), chkT Γ.M Γ.N c sc pe = true → ST Γ sc c pe ∧ (c.isBool = true → SW Γ sc c pe)
  | .yes, Γ, G, sc, pe, h => by cases pe <;> exact absurd h Bool.false_ne_true
  | .val e, Γ, G, sc, pe, h => by
    refine ⟨?_, fun q => absurd q Bool.false_ne_true⟩
    have h' : (e.asVal && chkE Γ.M Γ.N e sc pe) = true := h
    simp only [Bool.and_eq_true] at h'
    obtain ⟨h1, h2⟩ := h'
    have se := sndE e Γ G sc pe h2
    cases pe with
    | Compare pa ops pbs p =>
      cases e with
      | cmp o a b =>
        match ops, pbs, h2 with
        | [op], [pb], h2 =>
          have h3 : (decide (op = o.py) && !behindInMarks op pb && chkE Γ.M Γ.N a sc pa && chkE Γ.M Γ.N b sc pb) = true := h2
          simp only [Bool.and_eq_true, decide_eq_true_eq, Bool.not_eq_true'] at h3
          obtain ⟨⟨⟨rfl, h4⟩, h5⟩, h6⟩ := h3
          exact st_cmp o h4 (sndE a Γ G sc pa h5) (sndE b Γ G sc pb h6)
        | [], _, h => exact absurd h Bool.false_ne_true
        | [_], [], h => exact absurd h Bool.false_ne_true
        | [_], _ :: _ :: _, h => exact absurd h Bool.false_ne_true
        | _ :: _ :: _, _, h => exact absurd h Bool.false_ne_true
      | chain o q a b c =>
        match ops, pbs, h2 with
        | [op, op'], [pb, pc], h2 =>
          have h3 : (decide (op = o.py) && decide (op' = q.py) && !lastMarks [op, op'] [pb, pc] && chkE Γ.M Γ.N a sc pa && chkE Γ.M Γ.N b sc pb && chkE Γ.M Γ.N c sc pc) = true := h2
          simp only [Bool.and_eq_true, decide_eq_true_eq, Bool.not_eq_true'] at h3
          obtain ⟨⟨⟨⟨⟨rfl, rfl⟩, k0⟩, k1⟩, k2⟩, k3⟩ := h3
          exact st_chain o q k0 (sndE a Γ G sc pa k1) (sndE b Γ G sc pb k2) (sndE c Γ G sc pc k3)
        | [], _, h => exact absurd h Bool.false_ne_true
        | [_], _, h => exact absurd h Bool.false_ne_true
        | [_, _], [], h => exact absurd h Bool.false_ne_true
        | [_, _], [_], h => exact absurd h Bool.false_ne_true
        | [_, _], _ :: _ :: _ :: _, h => exact absurd h Bool.false_ne_true
        | _ :: _ :: _ :: _, _, h => exact absurd h Bool.false_ne_true
      | kin neg k e0 =>
        match ops, pbs, h2 with
        | [op], [b], h2 =>
          cases b with
          | Name x p' =>
            have h' : (decide (op = if neg = true then .NotIn else .In) && decide (Γ.M.Kn[k]? = some x) && gloB sc x && chkE Γ.M Γ.N e0 sc pa) = true := h2
            simp only [Bool.and_eq_true, decide_eq_true_eq] at h'
            exact st_kin G h'.1.1.1 h'.1.1.2 h'.1.2 (sndE e0 Γ G sc pa h'.2)
          | _ => exact absurd h2 Bool.false_ne_true
        | [op], [], h => exact absurd h Bool.false_ne_true
        | [op], b :: _ :: _, h => exact absurd h (by cases b <;> exact Bool.false_ne_true)
        | [], _, h => exact absurd h Bool.false_ne_true
        | _ :: _ :: _, _, h => exact absurd h Bool.false_ne_true
      | _ => exact absurd h2 Bool.false_ne_true
    | BoolOp op vs p =>
      cases e with
      | and _ _ => exact absurd h1 Bool.false_ne_true
      | or _ _ => exact absurd h1 Bool.false_ne_true
      | _ => cases op <;> exact absurd h2 Bool.false_ne_true
    | IfExp _ _ _ p =>
      cases e with
      | ite _ _ _ => exact absurd h1 Bool.false_ne_true
      | _ => exact absurd h2 Bool.false_ne_true
    | UnaryOp op pa p =>
      cases op with
      | Not =>
        cases e with
        | not _ => exact absurd h1 Bool.false_ne_true
          | _ => exact absurd h2 Bool.false_ne_true
      | _ => exact st_val (fun _ _ => rfl) se
    | _ => exact st_val (fun _ _ => rfl) se
  | .and a b, Γ, G, sc, pe, h => by
    have key : SW Γ sc (.and a b) pe := by
      cases pe with
      | BoolOp op vs p =>
        cases op with
        | Or => exact absurd h Bool.false_ne_true
        | And =>
          match vs, h with
          | [pa, pb], h =>
            have h' : (chkT Γ.M Γ.N a sc pa && chkT Γ.M Γ.N b sc pb) = true := h
            simp only [Bool.and_eq_true] at h'
            exact sw_and (sndT a Γ G sc pa h'.1).1 (sw_and1 (sndT b Γ G sc pb h'.2).1)
          | pa :: pb :: pc :: r, h =>
            have h' : (chkT Γ.M Γ.N a sc pa && chkT Γ.M Γ.N b sc (.BoolOp .And (pb :: pc :: r) p)) = true := h
            simp only [Bool.and_eq_true] at h'
            exact sw_and (sndT a Γ G sc pa h'.1).1 ((sndT b Γ G sc _ h'.2).2 (bool_of h'.2))
          | [], h => exact absurd h Bool.false_ne_true
          | [_], h => exact absurd h Bool.false_ne_true
      | _ => exact absurd h Bool.false_ne_true
    exact ⟨key.st, fun _ => key⟩
  | .or a b, Γ, G, sc, pe, h => by
    have key : SW Γ sc (.or a b) pe := by
      cases pe with
      | BoolOp op vs p =>
        cases op with
        | And => exact absurd h Bool.false_ne_true
        | Or =>
          match vs, h with
          | [pa, pb], h =>
            have h' : (chkT Γ.M Γ.N a sc pa && chkT Γ.M Γ.N b sc pb) = true := h
            simp only [Bool.and_eq_true] at h'
            exact sw_or (sndT a Γ G sc pa h'.1).1 (sw_or1 (sndT b Γ G sc pb h'.2).1)
          | pa :: pb :: pc :: r, h =>
            have h' : (chkT Γ.M Γ.N a sc pa && chkT Γ.M Γ.N b sc (.BoolOp .Or (pb :: pc :: r) p)) = true := h
            simp only [Bool.and_eq_true] at h'
            exact sw_or (sndT a Γ G sc pa h'.1).1 ((sndT b Γ G sc _ h'.2).2 (bool_of h'.2))
          | [], h => exact absurd h Bool.false_ne_true
          | [_], h => exact absurd h Bool.false_ne_true
      | _ => exact absurd h Bool.false_ne_true
    exact ⟨key.st, fun _ => key⟩
  | .not a, Γ, G, sc, pe, h => by
    cases pe with
    | UnaryOp op pa p =>
      cases op with
      | Not => exact ⟨st_not (sndT a Γ G sc pa h).1, fun q => absurd q Bool.false_ne_true⟩
      | _ => exact absurd h Bool.false_ne_true
    | _ => exact absurd h Bool.false_ne_true
  | .ite c a b, Γ, G, sc, pe, h => by cases pe <;> exact absurd h Bool.false_ne_true
theorem sndI : ∀ (it : I) (Γ : Gam) (G : GOk Γ) (sc : Scope) (pe : Expr), chkI Γ.M Γ.N it sc pe = true → SI Γ sc it pe
  | .seq e, Γ, G, sc, pe, h => si_seq (sndE e Γ G sc pe h)
  | .rng1 a, Γ, G, sc, pe, h => by
    cases pe with
    | Call fn pes kws p =>
      cases fn with
      | Name x p' =>
        match pes, kws, h with
        | [pa], [], h =>
          have h' : (decide (x = "range") && decide (x ∈ Γ.M.B) && gloB sc x && chkE Γ.M Γ.N a sc pa) = true := h
          simp only [Bool.and_eq_true, decide_eq_true_eq] at h'
          exact si_rng1 G h'.1.1.1 h'.1.1.2 h'.1.2 (fine_of h'.2) (sndE a Γ G sc pa h'.2)
        | [], _, h => exact absurd h Bool.false_ne_true
        | [_], _ :: _, h => exact absurd h Bool.false_ne_true
        | _ :: _ :: _, _, h => exact absurd h Bool.false_ne_true
      | _ => exact absurd h Bool.false_ne_true
    | _ => exact absurd h Bool.false_ne_true
  | .rng2 a b, Γ, G, sc, pe, h => by
    cases pe with
    | Call fn pes kws p =>
      cases fn with
      | Name x p' =>
        match pes, kws, h with
        | [pa, pb], [], h =>
          have h' : (decide (x = "range") && decide (x ∈ Γ.M.B) && gloB sc x && chkE Γ.M Γ.N a sc pa && chkE Γ.M Γ.N b sc pb) = true := h
          simp only [Bool.and_eq_true, decide_eq_true_eq] at h'
          exact si_rng2 G h'.1.1.1.1 h'.1.1.1.2 h'.1.1.2 (fine_of h'.1.2) (fine_of h'.2) (sndE a Γ G sc pa h'.1.2) (sndE b Γ G sc pb h'.2)
        | [], _, h => exact absurd h Bool.false_ne_true
        | [_], _, h => exact absurd h Bool.false_ne_true
        | [_, _], _ :: _, h => exact absurd h Bool.false_ne_true
        | _ :: _ :: _ :: _, _, h => exact absurd h Bool.false_ne_true
      | _ => exact absurd h Bool.false_ne_true
    | _ => exact absurd h Bool.false_ne_true
  | .enum a, Γ, G, sc, pe, h => by
    cases pe with
    | Call fn pes kws p =>
      cases fn with
      | Name x p' =>
        match pes, kws, h with
        | [pa], [], h =>
          have h' : (decide (x = "enumerate") && decide (x ∈ Γ.M.B) && gloB sc x && chkE Γ.M Γ.N a sc pa) = true := h
          simp only [Bool.and_eq_true, decide_eq_true_eq] at h'
          exact si_enum G h'.1.1.1 h'.1.1.2 h'.1.2 (fine_of h'.2) (sndE a Γ G sc pa h'.2)
        | [], _, h => exact absurd h Bool.false_ne_true
        | [_], _ :: _, h => exact absurd h Bool.false_ne_true
        | _ :: _ :: _, _, h => exact absurd h Bool.false_ne_true
      | _ => exact absurd h Bool.false_ne_true
    | _ => exact absurd h Bool.false_ne_true
  | .zip a b, Γ, G, sc, pe, h => by
    cases pe with
    | Call fn pes kws p =>
      cases fn with
      | Name x p' =>
        match pes, kws, h with
        | [pa, pb], [], h =>
          have h' : (decide (x = "zip") && decide (x ∈ Γ.M.B) && gloB sc x && chkE Γ.M Γ.N a sc pa && chkE Γ.M Γ.N b sc pb) = true := h
          simp only [Bool.and_eq_true, decide_eq_true_eq] at h'
          exact si_zip G h'.1.1.1.1 h'.1.1.1.2 h'.1.1.2 (fine_of h'.1.2) (fine_of h'.2) (sndE a Γ G sc pa h'.1.2) (sndE b Γ G sc pb h'.2)
        | [], _, h => exact absurd h Bool.false_ne_true
        | [_], _, h => exact absurd h Bool.false_ne_true
        | [_, _], _ :: _, h => exact absurd h Bool.false_ne_true
        | _ :: _ :: _ :: _, _, h => exact absurd h Bool.false_ne_true
      | _ => exact absurd h Bool.false_ne_true
    | _ => exact absurd h Bool.false_ne_true
  | .rev a, Γ, G, sc, pe, h => by
    cases pe with
    | Call fn pes kws p =>
      cases fn with
      | Name x p' =>
        match pes, kws, h with
        | [pa], [], h =>
          have h' : (decide (x = "reversed") && decide (x ∈ Γ.M.B) && gloB sc x && chkE Γ.M Γ.N a sc pa) = true := h
          simp only [Bool.and_eq_true, decide_eq_true_eq] at h'
          exact si_rev G h'.1.1.1 h'.1.1.2 h'.1.2 (fine_of h'.2) (sndE a Γ G sc pa h'.2)
        | [], _, h => exact absurd h Bool.false_ne_true
        | [_], _ :: _, h => exact absurd h Bool.false_ne_true
        | _ :: _ :: _, _, h => exact absurd h Bool.false_ne_true
      | _ => exact absurd h Bool.false_ne_true
    | _ => exact absurd h Bool.false_ne_true
end
end Q3

set_option Elab.async false
set_option linter.all false
set_option maxRecDepth 100000
set_option maxHeartbeats 4000000
/-! Q3k: statements. -/
namespace Q3
open PySem PySem.Spec PyProof.Rows L2

def notComp : Expr → Bool
  | .ListComp _ _ _ _ => false
  | .SetComp _ _ _ _ => false
  | .DictComp _ _ _ _ _ => false
  | _ => true
/-- an assignment whose form is served: 0 none, 1 plain, 2 a comprehension to a local -/
def lcF (sc : Scope) (x : Str) (px pos : Pos) (scope : Scope) : Nat := match sc.names.lookup x with
  | some .local => bif (px.line == pos.line) && !(scope.names.any fun p => p.1 == x && (p.2 == .local || p.2 == .cell)) then 2 else 0
  | some .cell => 1
  | _ => 0
theorem lcF_1 {sc : Scope} {x : Str} {px pos : Pos} {scope : Scope} (h : lcF sc x px pos scope = 1) : sc.names.lookup x = some .cell := by
  unfold lcF at h
  split at h
  · cases q : (px.line == pos.line) && !(scope.names.any fun p => p.1 == x && (p.2 == .local || p.2 == .cell)) <;> rw [q] at h <;> cases h
  · assumption
  · cases h
theorem lcF_2 {sc : Scope} {x : Str} {px pos : Pos} {scope : Scope} (h : lcF sc x px pos scope = 2) : sc.names.lookup x = some .local ∧ (px.line == pos.line) = true ∧ (scope.names.any fun q => q.1 == x && (q.2 == .local || q.2 == .cell)) = false := by
  unfold lcF at h
  split at h
  · rename_i e1
    cases q : (px.line == pos.line) && !(scope.names.any fun p => p.1 == x && (p.2 == .local || p.2 == .cell)) with
    | true =>
      rw [Bool.and_eq_true, Bool.not_eq_true'] at q
      exact ⟨e1, q.1, q.2⟩
    | false => rw [q] at h; cases h
  · cases h
  · cases h
def asgF (sc : Scope) : Expr → Expr → Nat
  | .Name x px, .ListComp _ [⟨_, _, _, 0⟩] scope pos => lcF sc x px pos scope
  | .Name _ _, pe => bif notComp pe then 1 else 0
  | .Tuple _ _ _, .Tuple _ _ _ => 0
  | .Tuple _ _ _, _ => 1
  | _, _ => 0
theorem lcF_12 {sc : Scope} {x : Str} {px pos : Pos} {scope : Scope} (h : lcF sc x px pos scope ≠ 0) : lcF sc x px pos scope = 1 ∨ lcF sc x px pos scope = 2 := by
  unfold lcF at h ⊢
  split <;> rename_i e <;> simp only [e] at h
  · cases q : (px.line == pos.line) && !(scope.names.any fun p => p.1 == x && (p.2 == .local || p.2 == .cell)) with
    | true => exact .inr rfl
    | false => rw [q] at h; exact absurd rfl h
  · exact .inl rfl
  · exact absurd rfl h
theorem asgF_12 {sc : Scope} {a b : Expr} (h : asgF sc a b ≠ 0) : asgF sc a b = 1 ∨ asgF sc a b = 2 := by
  unfold asgF at h ⊢
  split <;> rename_i e <;> simp only at h
  · exact lcF_12 h
  · cases q : notComp b with
    | true => exact .inl rfl
    | false => rw [q] at h; exact absurd rfl h
  · exact absurd rfl h
  · exact .inl rfl
  · exact absurd rfl h
def exnOk (M : Nms) (g : Tg) : Bool := match M.exn with
  | none => true
  | some i => !(g.slots.contains i)
def isNoE : E → Bool
  | .non => true
  | _ => false
mutual
def chkS : S → Nms → List Str → Scope → Stmt → Bool
  | .ex e, M, N, sc, .Expr pe _ => notComp pe && chkE M N e sc pe
  | .asg g e, M, N, sc, .Assign [tg] pe _ => decide (asgF sc tg pe ≠ 0) && exnOk M g && M.calm && chkTg N (locB sc) g tg && chkE M N e sc pe
  | .six o i v, M, N, sc, .Assign [.Subscript po pi _] pv _ => chkE M N o sc po && chkE M N i sc pi && chkE M N v sc pv
  | .iff c a b, M, N, sc, .If pc pa pb _ => chkT M N c sc pc && chkSs a M N sc pa && chkSs b M N sc pb
  | .for g it b, M, N, sc, .For tg pit pb [] _ => M.calm && it.tgB tg && exnOk M g && chkTg N (locB sc) g tg && chkI M N it sc pit && chkSs b M N sc pb
  | .wh c b, M, N, sc, .While pc pb [] _ => chkT M N c sc pc && chkSs b M N sc pb
  | .ret e, M, N, sc, .Return (some pe) _ => chkE M N e sc pe
  | .ret e, _, _, _, .Return none _ => isNoE e
  | .pass, _, _, _, .Pass _ => true
  | .brk, _, _, _, .Break _ => true
  | .cont, _, _, _, .Continue _ => true
  | .stop, _, _, _, _ => true
  | _, _, _, _, _ => false
def chkSs : Ss → Nms → List Str → Scope → List Stmt → Bool
  | .nil, _, _, _, [] => true
  | .cons s r, M, N, sc, ps :: pr => chkS s M N sc ps && chkSs r M N sc pr
  | _, _, _, _, _ => false
end

structure OkS (Γ : Gam) (sc : Scope) (X : Cx) : Prop where
  x : Okx Γ sc X
  hs : X.stack = X.env :: X.outer
  hf : X.env.frame = some X.env.locals
  po : PassesOwn (model X.prog X.w) X.A X.env X.xe
  fn : ∀ x, X.fn x = true
structure Evs (Γ : Gam) (ρ : List Addr) (H : Hp) (en : En) (σ : L2.St) : Prop where
  ev : Evn Γ.K ρ H en σ
  xi : ∀ x i, Γ.C.ex = some x → Γ.M.exn = some i → σ[i]? = some (some (.ref x.a)) ∧ ((x.fs = [] ∧ x.d = none) ∨ ∃ dx vs, x.d = some dx ∧ H dx = some (.xd vs) ∧ RepF Γ.K ρ H x.fs vs)
def OXS (Γ : Gam) (Xs : KS) (ρ : List Addr) (H : Hp) : Prop := ∀ c fs cls d en' σ' st' H' ρ', Ab Γ.K ρ' st' H' → Ex ρ H ρ' H' → Evn Γ.K ρ' H' en' σ' → RepX Γ.K Γ.cl ρ' H' c fs cls d → Xs c fs en' st' → Γ.W cls d σ' H'
def PsT (Γ : Gam) (ρ : List Addr) (H : Hp) (N : En → Sto → Prop) (D : L2.St → Hp → Prop) : Prop := ∀ en' st' σ' H' ρ', Ab Γ.K ρ' st' H' → Ex ρ H ρ' H' → Evs Γ ρ' H' en' σ' → N en' st' → D σ' H'
structure EndsOk (Γ : Gam) (ρ : List Addr) (H : Hp) (N : Nd) (D : L2.Ends) : Prop where
  nx : PsT Γ ρ H N.nx D.nx
  rt : Out Γ.K ρ H N.rt D.rt
  bk : PsT Γ ρ H N.bk D.bk
  ct : PsT Γ ρ H N.ct D.ct
section
variable {Γ : Gam} {ρ ρ' : List Addr} {H H' : Hp} {en : En} {σ : L2.St} {Xs : KS}
theorem Evs.ext (V : Evs Γ ρ H en σ) (e : Ex ρ H ρ' H') : Evs Γ ρ' H' en σ :=
  ⟨V.ev.ext e, fun x i h1 h2 => ⟨(V.xi x i h1 h2).1, by
    rcases (V.xi x i h1 h2).2 with q | ⟨dx, vs, q1, q2, q3⟩
    · exact .inl q
    · exact .inr ⟨dx, vs, q1, e.xd _ _ q2, q3.ext e⟩⟩⟩
theorem OXS.ext (o : OXS Γ Xs ρ H) (e : Ex ρ H ρ' H') : OXS Γ Xs ρ' H' := fun c fs cls d en' σ' st' H'' ρ'' a x v r h => o c fs cls d en' σ' st' H'' ρ'' a (e.trans x) v r h
theorem Evs.evx (V : Evs Γ ρ H en σ) (o : OXS Γ Xs ρ H) : Evx Γ (atS Xs en) ρ H en σ :=
  ⟨V.ev, fun c fs cls d st' H' ρ' a x r h => o c fs cls d en σ st' H' ρ' a x (V.ev.ext x) r h, V.xi⟩
theorem PsT.ext {N : En → Sto → Prop} {D : L2.St → Hp → Prop} (p : PsT Γ ρ H N D) (e : Ex ρ H ρ' H') : PsT Γ ρ' H' N D := fun en' st' σ' H'' ρ'' a x v h => p en' st' σ' H'' ρ'' a (e.trans x) v h
theorem Out.ext {K : PySem.W.Frag} {Q' : KD} {Q : VK} (p : Out K ρ H Q' Q) (e : Ex ρ H ρ' H') : Out K ρ' H' Q' Q := fun d st v H'' ρ'' a x r h => p d st v H'' ρ'' a (e.trans x) r h
theorem EndsOk.ext {N : Nd} {D : L2.Ends} (E : EndsOk Γ ρ H N D) (e : Ex ρ H ρ' H') : EndsOk Γ ρ' H' N D := ⟨E.nx.ext e, E.rt.ext e, E.bk.ext e, E.ct.ext e⟩
/-- the slots behind a target -/
theorem Evs.bound {g : Tg} {σ' : L2.St} {en' : En} (V : Evs Γ ρ H en σ) (hx : exnOk Γ.M g = true) (E : Evn Γ.K ρ H en' σ') (k : ∀ i : Nat, i ∉ g.slots → σ'[i]? = σ[i]?) : Evs Γ ρ H en' σ' :=
  ⟨E, fun x i h1 h2 => by
    unfold exnOk at hx
    rw [h2] at hx
    have hn : i ∉ g.slots := by simpa using hx
    rw [k i hn]
    exact V.xi x i h1 h2⟩
end
def SS (Γ : Gam) (sc : Scope) (s : S) (ps : Stmt) : Prop := ∃ t, (∀ X, OkS Γ sc X → PS X ps t) ∧ ∀ en st σ H ρ N Xs D, Ab Γ.K ρ st H → Evs Γ ρ H en σ → OXS Γ Xs ρ H → wS s Γ.C N Xs en st → EndsOk Γ ρ H N D → t D σ H
def SSs (Γ : Gam) (sc : Scope) (s : Ss) (ps : List Stmt) : Prop := ∃ t, (∀ X, OkS Γ sc X → PSs X ps t) ∧ ∀ en st σ H ρ N Xs D, Ab Γ.K ρ st H → Evs Γ ρ H en σ → OXS Γ Xs ρ H → wSs s Γ.C N Xs en st → EndsOk Γ ρ H N D → t D σ H

section
variable {Γ : Gam} {sc : Scope} {e : E} {pe : Expr} {pos : Pos}
theorem ss_ex (hn : notComp pe = true) (he : SE Γ sc e pe) : SS Γ sc (.ex e) (.Expr pe pos) := by
  obtain ⟨ta, pa, ra⟩ := he
  refine ⟨tDrop ta, fun X hX => ps_expr (pa X hX.x) (by cases pe <;> first | rfl | exact absurd hn Bool.false_ne_true), fun en st σ H ρ N Xs D A V B h E => ?_⟩
  exact ra en st σ H ρ _ _ _ A (V.evx B) h fun d st1 v H1 ρ1 A1 e1 r1 h1 => E.nx en st1 σ H1 ρ1 A1 e1 (V.ext e1) h1
theorem ss_ret (he : SE Γ sc e pe) : SS Γ sc (.ret e) (.Return (some pe) pos) := by
  obtain ⟨ta, pa, ra⟩ := he
  exact ⟨tRet ta, fun X hX => ps_ret (pa X hX.x), fun en st σ H ρ N Xs D A V B h E => ra en st σ H ρ _ _ _ A (V.evx B) h E.rt⟩
theorem ss_retN : SS Γ sc (.ret .non) (.Return none pos) :=
  ⟨tRetN, fun X hX => ps_retN, fun en st σ H ρ N Xs D A V B h E => E.rt .non st .non H ρ A Ex.refl (rep_non.mpr rfl) h⟩
theorem ss_pass : SS Γ sc .pass (.Pass pos) := ⟨tNext, fun X hX => ps_pass, fun en st σ H ρ N Xs D A V B h E => E.nx en st σ H ρ A Ex.refl V h⟩
theorem ss_brk : SS Γ sc .brk (.Break pos) := ⟨tBreak, fun X hX => ps_break, fun en st σ H ρ N Xs D A V B h E => E.bk en st σ H ρ A Ex.refl V h⟩
theorem ss_cont : SS Γ sc .cont (.Continue pos) := ⟨tCont, fun X hX => ps_continue, fun en st σ H ρ N Xs D A V B h E => E.ct en st σ H ρ A Ex.refl V h⟩
theorem ss_stop {ps : Stmt} : SS Γ sc .stop ps := ⟨tNever, fun X hX => ps_never, fun en st σ H ρ N Xs D A V B h E => h⟩
theorem ss_iff {c : T} {a b : Ss} {pc : Expr} {pa pb : List Stmt} (hc : ST Γ sc c pc) (ha : SSs Γ sc a pa) (hb : SSs Γ sc b pb) : SS Γ sc (.iff c a b) (.If pc pa pb pos) := by
  obtain ⟨tc, pc', rc⟩ := hc
  obtain ⟨ta, pa', ra⟩ := ha
  obtain ⟨tb, pb', rb⟩ := hb
  refine ⟨tIfS tc ta tb, fun X hX => ps_if (pc' X hX.x) (pa' X hX) (pb' X hX), fun en st σ H ρ N Xs D A V B h E => ?_⟩
  refine rc en st σ H ρ _ _ _ A (V.evx B) h fun t st1 H1 ρ1 A1 e1 h1 => ?_
  cases t with
  | true => exact ite_tt (ra en st1 σ H1 ρ1 N Xs D A1 (V.ext e1) (B.ext e1) h1 (E.ext e1))
  | false => exact ite_ff (rb en st1 σ H1 ρ1 N Xs D A1 (V.ext e1) (B.ext e1) h1 (E.ext e1))
theorem sss_nil : SSs Γ sc .nil [] := ⟨tNext, fun X hX => pss_nil, fun en st σ H ρ N Xs D A V B h E => E.nx en st σ H ρ A Ex.refl V h⟩
theorem sss_cons {s : S} {r : Ss} {ps : Stmt} {pr : List Stmt} (hs : SS Γ sc s ps) (hr : SSs Γ sc r pr) : SSs Γ sc (.cons s r) (ps :: pr) := by
  obtain ⟨ta, pa, ra⟩ := hs
  obtain ⟨tb, pb, rb⟩ := hr
  refine ⟨tSeq ta tb, fun X hX => pss_cons (pa X hX) (pb X hX), fun en st σ H ρ N Xs D A V B h E => ?_⟩
  refine ra en st σ H ρ _ Xs _ A V B h ⟨fun en1 st1 σ1 H1 ρ1 A1 e1 V1 h1 => ?_, E.rt, E.bk, E.ct⟩
  exact rb en1 st1 σ1 H1 ρ1 N Xs D A1 V1 (B.ext e1) h1 (E.ext e1)
theorem okt_of {X : Cx} (hX : OkS Γ sc X) (hcm : Γ.M.calm = true) : OkT Γ.N (locB sc) Γ.K X := by
  refine ⟨hX.x.N, hX.x.K, hX.x.calm hcm, fun x hx => ?_⟩
  refine ⟨?_, .inl (hX.fn x)⟩
  unfold locB at hx
  rw [← hX.x.sc] at hx
  split at hx
  · exact .inl (by assumption)
  · exact .inr (by assumption)
  · cases hx
/-- a comprehension's parts -/
theorem comp_parts (G : GOk Γ) {pelt tg pit : Expr} {ifs : List Expr} {scope : Scope} (h : chkE Γ.M Γ.N e sc (.ListComp pelt [⟨tg, pit, ifs, 0⟩] scope pos) = true) :
    ∃ elt g it c own, e = .comp elt g it c ∧ Γ.M.calm = true ∧ fine pit = true ∧ blkC Γ.N sc scope own = true ∧ lcOf Γ sc elt g it c tg pit pelt ifs scope own := by
  cases e with
  | comp elt g it c =>
    have h' : (Γ.M.calm && it.tgB tg && chkI Γ.M Γ.N it sc pit && blkC Γ.N sc scope (ownOf g tg) && decide ((ownOf g tg).map (·.2) = g.slots) && chkTg Γ.N (locB scope) g tg && chkE Γ.M Γ.N elt (relS scope sc) pelt && ifsB c.isYes (fun p => chkT Γ.M Γ.N c (relS scope sc) p) ifs) = true := h
    simp only [Bool.and_eq_true, decide_eq_true_eq] at h'
    obtain ⟨⟨⟨⟨⟨⟨⟨hcm, htB⟩, h1⟩, h2⟩, h3⟩, h4⟩, h5⟩, h6⟩ := h'
    have hc : STs Γ.noW (relS scope sc) c ifs := by
      match ifs, h6 with
      | [], h6 => cases c <;> first | exact sts_nil | exact absurd h6 Bool.false_ne_true
      | [pc], h6 => exact sts_one (sndT c Γ.noW G.noW _ pc h6).1
      | _ :: _ :: _, h6 => exact absurd h6 Bool.false_ne_true
    exact ⟨elt, g, it, c, _, rfl, hcm, fineI_of h1, h2, lc_of G hcm htB (sndI it Γ G sc pit h1) h3 h4 (sndE elt Γ.noW G.noW _ pelt h5) hc⟩
  | _ => exact absurd h Bool.false_ne_true
theorem ss_asg1 {g : Tg} {tg : Expr} (G : GOk Γ) (hcm : Γ.M.calm = true) (hx : exnOk Γ.M g = true) (hf : asgF sc tg pe = 1) (hg : chkTg Γ.N (locB sc) g tg = true) (he : SE Γ sc e pe) : SS Γ sc (.asg g e) (.Assign [tg] pe pos) := by
  obtain ⟨ta, pa, ra⟩ := he
  obtain ⟨gt, pg, rg⟩ := tg_ok (K := Γ.K) G.nd hg
  refine ⟨tAsg ta gt, fun X hX => ?_, fun en st σ H ρ N Xs D A V B h E => ?_⟩
  · have hs : swapsWithSole [tg] pe pos.line X.env = pure false := by
      cases tg with
      | Name x px =>
        cases pe with
        | ListComp elt gens scope p =>
          have hc : sc.names.lookup x = some .cell := by
            match gens, hf with
            | [⟨_, _, _, .ofNat 0⟩], hf => exact lcF_1 hf
            | [], hf => cases hf
            | [⟨_, _, _, .ofNat (_ + 1)⟩], hf => cases hf
            | [⟨_, _, _, .negSucc _⟩], hf => cases hf
            | ⟨_, _, _, .ofNat (_ + 1)⟩ :: _ :: _, hf => cases hf
            | ⟨_, _, _, .ofNat 0⟩ :: _ :: _, hf => cases hf
            | ⟨_, _, _, .negSucc _⟩ :: _ :: _, hf => cases hf
          have hk : X.env.kindOf x = some .cell := by show X.env.scope.names.lookup x = _; rw [hX.x.sc]; exact hc
          unfold swapsWithSole swapsWith
          simp only [hk]
          rw [show ((some NameKind.cell == some NameKind.local) : Bool) = false from by decide, Bool.and_false, Bool.false_and, Bool.false_and]
        | SetComp _ _ _ _ => cases hf
        | DictComp _ _ _ _ _ => cases hf
        | _ => rfl
      | Tuple es k p => cases pe <;> first | rfl | cases hf
      | _ => cases pe <;> cases hf
    have hw : swappedStores [tg] pe X.env = pure none := by
      cases tg with
      | Name x px => rfl
      | Tuple es k p => cases pe <;> first | rfl | cases hf
      | _ => cases pe <;> cases hf
    refine ps_asg (pa X hX.x) (pg X (okt_of hX hcm)) hs hw ?_
    cases tg <;> first | rfl | (cases pe <;> cases hf)
  · refine ra en st σ H ρ _ _ _ A (V.evx B) h fun d st1 v H1 ρ1 A1 e1 r1 h1 => ?_
    split at h1
    · rename_i en' eb
      exact rg en σ ρ1 H1 d v en' _ (V.ev.ext e1) r1 eb fun σ' V' k l => E.nx en' st1 σ' H1 ρ1 A1 e1 ((V.ext e1).bound hx V' k) h1
    · exact False.elim h1
theorem ss_asg2 {g : Tg} {tg : Expr} (G : GOk Γ) (hx : exnOk Γ.M g = true) (hf : asgF sc tg pe = 2) (hg : chkTg Γ.N (locB sc) g tg = true) (he : chkE Γ.M Γ.N e sc pe = true) : SS Γ sc (.asg g e) (.Assign [tg] pe pos) := by
  cases tg with
  | Name x px =>
    cases pe with
    | ListComp pelt gens scope p =>
      match gens, hf, he with
      | [⟨tg', pit, ifs, .ofNat 0⟩], hf, he =>
        obtain ⟨elt, g', it, c, own, rfl, hcm, hfi, hb, lc⟩ := comp_parts G he
        obtain ⟨wi, gt, tt, te, pI, pG, pT, pE, r⟩ := lc
        cases g with
        | tp is => exact absurd hg Bool.false_ne_true
        | nm i =>
          have hg' : (decide (Γ.N[i]? = some x) && locB sc x) = true := hg
          rw [Bool.and_eq_true, decide_eq_true_eq] at hg'
          have hq := lcF_2 hf
          obtain ⟨q1, q2, q3⟩ := hq
          refine ⟨tAsg (tLc wi gt tt te (own.map (·.2))) (gName i), fun X hX => ?_, fun en st σ H ρ N Xs D A V B h E => ?_⟩
          · have hl : X.env.scope.names.lookup x = some .local := by rw [hX.x.sc]; exact q1
            have hkind : X.env.scope.kind = .function ∨ X.env.scope.kind ≠ .function := by by_cases h : X.env.scope.kind = .function; exact .inl h; exact .inr h
            refine ⟨fun pins s σ H D I h => ?_⟩
            exact (ps_setLc (hX.x.calm hcm) (by rw [hX.x.N]; exact G.nd) (by rw [hX.x.N]; exact hg'.1) hl (sw_true I.ok.kind hl q2 q3) (pI X hX.x) (by rw [hX.x.N, hX.x.sc]; exact blkOk_by hb) (pG X hX.x) (pT X hX.x) (pE X hX.x) (fold_of hfi _)).run pins s σ H D I h
          · have h' : wE Γ.C (.comp elt g' it c) en st (fun x st1 => match bindT (.nm i) x en with
              | some en' => N.nx en' st1
              | none => False) (atS Xs en) := h
            refine r en st σ H ρ _ _ _ A (V.evx B) h' fun d st1 v H1 ρ1 A1 e1 r1 h1 => ?_
            have V1 := (V.ev.ext e1).set i r1
            exact E.nx _ st1 _ H1 ρ1 A1 e1 ((V.ext e1).bound (g := .nm i) hx V1 fun j hj => by
              have hj' : j ∉ [i] := hj
              rw [List.mem_singleton] at hj'
              rw [List.getElem?_set_ne (fun e => hj' e.symm)]) h1
      | [], hf, _ => cases hf
      | [⟨_, _, _, .ofNat (_ + 1)⟩], hf, _ => cases hf
      | [⟨_, _, _, .negSucc _⟩], hf, _ => cases hf
      | ⟨_, _, _, .ofNat (_ + 1)⟩ :: _ :: _, hf, _ => cases hf
      | ⟨_, _, _, .ofNat 0⟩ :: _ :: _, hf, _ => cases hf
      | ⟨_, _, _, .negSucc _⟩ :: _ :: _, hf, _ => cases hf
    | _ => cases hf
  | Tuple es k p => cases pe <;> cases hf
  | _ => cases pe <;> cases hf
/-- a thing written at an index or a key -/
def rSetQ (K : PySem.W.Frag) : TSet := fun o i v H Q => ∃ (ρ : List Addr) (st st' : Sto) (a : Nat) (y z : Q3.D), Ab K ρ st H ∧ Rep K ρ H (.ref a) o ∧ Rep K ρ H y i ∧ Rep K ρ H z v ∧ putAt st a y z = some st' ∧ ∀ H', Ab K ρ st' H' → Ex ρ H ρ H' → Q H'
theorem set_q {X : Cx} (hu : X.A.units + 1 < cLine) : PSet X (rSetQ X.K) := by
  intro pins s σ H o i v ov iv u Q I ro ri rv hh
  obtain ⟨ρ, st, st', a, y, z, A, r1, r2, r3, h, O⟩ := hh
  unfold putAt at h
  split at h
  · rename_i xs ex
    cases y with
    | int k =>
      have h2 : (ixN xs.length k).map (fun j => st.set a (.lst (xs.set j z))) = some st' := h
      rw [Option.map_eq_some_iff] at h2
      obtain ⟨j, ej, rfl⟩ := h2
      obtain ⟨p, vs, rfl, hr, hp, q1⟩ := A.mlst ex r1
      cases rep_int.mp r2
      have er : Ex ρ H ρ (upd H p (.lst (vs.set j v))) := ex_wr hp
      exact set_list pins s σ H _ _ _ ov iv u Q I ro ri rv ⟨p, vs, k, j, rfl, rfl, hp, by rw [← q1.length]; exact ej, O _ (A.setL ex hr hp (q1.set j r3)) er⟩
    | _ => cases h
  · rename_i o0 hno ex
    rw [Option.map_eq_some_iff] at h
    obtain ⟨o', ep, rfl⟩ := h
    cases o0 with
    | dK kvs =>
      have ep' : (if kvs.length < 16777216 then (keyOf y).map fun k => Q3.O.dK (dPut kvs k z) else none) = some o' := ep
      split at ep'
      · rename_i hl
        rw [Option.map_eq_some_iff] at ep'
        obtain ⟨k, hk, rfl⟩ := ep'
        obtain ⟨p, vs, rfl, hr, hp, q1⟩ := A.dK ex r1
        have ek := key_rep hk r2
        subst ek
        have er : Ex ρ H ρ (upd H p (.dK (putK vs k v))) := ex_wrO hp rfl
        have q2 := (q1.put k r3).ext er
        exact set_dict hu pins s σ H _ _ _ ov iv u Q I ro ri rv ⟨p, _, rfl, DPut.k hp (Lm_lt (by rw [← q1.length]; exact hl)), O _ (A.setO (o1 := .dK _) ex rfl hr hp rfl ⟨_, upd_same, q2.1, q2.2⟩) er⟩
      · cases ep'
    | _ => cases ep
  · cases h
theorem ss_six {o i v : E} {po pi pv : Expr} {p2 : Pos} (hf : fine pi = true) (ho : SE Γ sc o po) (hi : SE Γ sc i pi) (hv : SE Γ sc v pv) : SS Γ sc (.six o i v) (.Assign [.Subscript po pi p2] pv pos) := by
  obtain ⟨ta, pa, ra⟩ := ho
  obtain ⟨tb, pb, rb⟩ := hi
  obtain ⟨tc, pc, rc⟩ := hv
  refine ⟨tAsg tc (gSub ta tb (rSetQ Γ.K)), fun X hX => ?_, fun en st σ H ρ N Xs D A V B h E => ?_⟩
  · have hs := set_q (X := X) (by have := okx_hu hX.x; omega)
    rw [hX.x.K] at hs
    refine ps_asg (pc X hX.x) (pg_sub (pa X hX.x) (pb X hX.x) hs ?_) ?_ ?_ rfl
    · intro v
      cases pi <;> first | rfl | cases hf
    · cases pv <;> rfl
    · rfl
  · refine rc en st σ H ρ _ _ _ A (V.evx B) h fun z st1 vz H1 ρ1 A1 e1 r1 h1 => ?_
    refine ra en st1 σ H1 ρ1 _ _ _ A1 ((V.ext e1).evx (B.ext e1)) h1 fun x st2 vx H2 ρ2 A2 e2 r2 h2 => ?_
    have e12 := e1.trans e2
    refine rb en st2 σ H2 ρ2 _ _ _ A2 ((V.ext e12).evx (B.ext e12)) h2 fun y st3 vy H3 ρ3 A3 e3 r3 h3 => ?_
    cases x with
    | ref a =>
      have h3' : (match putAt st3 a y z with
        | some st' => N.nx en st'
        | none => False) := h3
      split at h3'
      · rename_i st' ep
        exact ⟨ρ3, st3, st', a, y, z, A3, r2.ext e3, r3, (r1.ext e2).ext e3, ep, fun H' A' e' => E.nx en _ σ _ ρ3 A' ((e12.trans e3).trans e') (V.ext ((e12.trans e3).trans e')) h3'⟩
      · exact False.elim h3'
    | _ => exact False.elim h3
theorem ss_for {g : Tg} {it : I} {b : Ss} {tg pit : Expr} {pb : List Stmt} (G : GOk Γ) (hcm : Γ.M.calm = true) (htB : it.tgB tg = true) (hx : exnOk Γ.M g = true) (hg : chkTg Γ.N (locB sc) g tg = true) (hf : fine pit = true) (hi : SI Γ sc it pit) (hb : SSs Γ sc b pb) :
    SS Γ sc (.for g it b) (.For tg pit pb [] pos) := by
  obtain ⟨wi, pI, rI⟩ := hi tg htB
  obtain ⟨gt, pg, rg⟩ := tg_ok (K := Γ.K) G.nd hg
  obtain ⟨tb, pb', rb⟩ := hb
  refine ⟨tFor wi gt tb, fun X hX => ps_for hX.po (hX.x.calm hcm) (pI X hX.x) (pg X (okt_of hX hcm)) (pb' X hX) (fold_of hf _), fun en st σ H ρ N Xs D A V B h E => ?_⟩
  refine rI en st σ H ρ _ _ _ A (V.evx B) h fun J j st1 H1 ρ1 A1 e1 wk h1 => ?_
  obtain ⟨body, hbody⟩ : ∃ body, body = (fun (d : Q3.D) (K : En → Sto → Prop) (en1 : En) (st2 : Sto) => match bindT g d en1 with
    | some en2 => wSs b Γ.C (N.lp K) Xs en2 st2
    | none => False) := ⟨_, rfl⟩
  have h1 : loopF j.gs body j.xs N.nx en st1 := by rw [hbody]; exact h1
  refine ⟨fun i m σ' H' => ∃ ρ' st' en', m = j.xs.length - i ∧ i ≤ j.xs.length ∧ Ab Γ.K ρ' st' H' ∧ Ex ρ1 H1 ρ' H' ∧ Evs Γ ρ' H' en' σ' ∧ loopF j.gs body (j.xs.drop i) N.nx en' st',
    ⟨j.xs.length, ρ1, st1, en, by simp, Nat.zero_le _, A1, Ex.refl, V.ext e1, by rw [List.drop_zero]; exact h1⟩, ?_⟩
  rintro i m σ' H' ⟨ρ', st', en', rfl, hi', A', e', V', hl⟩
  by_cases hlt : i < j.xs.length
  · rw [List.drop_eq_getElem_cons hlt] at hl
    obtain ⟨hgs, hbd⟩ := hl
    obtain ⟨wk1, _⟩ := wk ρ' st' H' A' e' hgs i
    obtain ⟨hgo, hy⟩ := wk1 _ (List.getElem?_eq_getElem hlt)
    refine .inr ⟨hgo, fun σ'' H'' => ∃ ρ'' st'' en'', Ab Γ.K ρ'' st'' H'' ∧ Ex ρ1 H1 ρ'' H'' ∧ Evs Γ ρ'' H'' en'' σ'' ∧ loopF j.gs body (j.xs.drop (i + 1)) N.nx en'' st'',
      fun σ'' H'' ⟨ρ'', st'', en'', B1, B2, B3, B4⟩ => ⟨j.xs.length - (i + 1), by omega, ρ'', st'', en'', rfl, hlt, B1, B2, B3, B4⟩, fun x Hx hyl => ?_⟩
    obtain ⟨A3, e3, r3⟩ := hy x Hx hyl
    have hb' : (match bindT g j.xs[i] en' with
      | some en2 => wSs b Γ.C (N.lp (loopF j.gs body (j.xs.drop (i + 1)) N.nx)) Xs en2 st'
      | none => False) := by rw [hbody] at hbd ⊢; exact hbd
    split at hb'
    · rename_i en2 eb
      have e4 : Ex ρ H ρ' Hx := (e1.trans e').trans e3
      refine rg en' σ' ρ' Hx _ x en2 _ (V'.ev.ext e3) r3 eb fun σ2 V2 k l => ?_
      refine rb en2 st' σ2 Hx ρ' _ Xs _ A3 ((V'.ext e3).bound hx V2 k) (B.ext e4) hb' ⟨fun en5 st5 σ5 H5 ρ5 A5 e5 V5 h5 => ⟨ρ5, st5, en5, A5, (e'.trans e3).trans e5, V5, h5⟩, E.rt.ext e4, E.nx.ext e4, fun en5 st5 σ5 H5 ρ5 A5 e5 V5 h5 => ⟨ρ5, st5, en5, A5, (e'.trans e3).trans e5, V5, h5⟩⟩
    · exact False.elim hb'
  · have hn : i = j.xs.length := by omega
    subst hn
    rw [List.drop_length] at hl
    obtain ⟨hgs, hq⟩ := hl
    obtain ⟨_, wk2⟩ := wk ρ' st' H' A' e' hgs j.xs.length
    exact .inl ⟨wk2 rfl, E.nx en' st' σ' H' ρ' A' (e1.trans e') V' hq⟩
theorem ss_wh {c : T} {b : Ss} {pc : Expr} {pb : List Stmt} (hc : ST Γ sc c pc) (hb : SSs Γ sc b pb) : SS Γ sc (.wh c b) (.While pc pb [] pos) := by
  obtain ⟨tc, pc', rc⟩ := hc
  obtain ⟨tb, pb', rb⟩ := hb
  refine ⟨tWhile tc tb, fun X hX => ps_while hX.po (pc' X hX.x) (pb' X hX), fun en st σ H ρ N Xs D A V B h E => ?_⟩
  obtain ⟨n, h⟩ := h
  obtain ⟨test, htest⟩ : ∃ test, test = (fun (en1 : En) (st1 : Sto) (K : Bool → Sto → Prop) => wT Γ.C c en1 st1 K (atS Xs en1)) := ⟨_, rfl⟩
  obtain ⟨body, hbody⟩ : ∃ body, body = (fun (K : En → Sto → Prop) (en1 : En) (st1 : Sto) => wSs b Γ.C (N.lp K) Xs en1 st1) := ⟨_, rfl⟩
  have h : loopW test body N.nx n en st := by rw [htest, hbody]; exact h
  refine ⟨fun m σ' H' => ∃ ρ' st' en', Ab Γ.K ρ' st' H' ∧ Ex ρ H ρ' H' ∧ Evs Γ ρ' H' en' σ' ∧ loopW test body N.nx m en' st', ⟨n, ρ, st, en, A, Ex.refl, V, h⟩, ?_⟩
  rintro m σ' H' ⟨ρ', st', en', A', e', V', hl⟩
  cases m with
  | zero => exact False.elim hl
  | succ m =>
    have hl' : wT Γ.C c en' st' (fun b1 st1 => Br b1 (body (loopW test body N.nx m) en' st1) (N.nx en' st1)) (atS Xs en') := by rw [htest] at hl ⊢; exact hl
    refine rc en' st' σ' H' ρ' _ _ _ A' (V'.evx (B.ext e')) hl' fun t st1 H1 ρ1 A1 e1 h1 => ?_
    cases t with
    | false => exact ite_ff (E.nx en' st1 σ' H1 ρ1 A1 (e'.trans e1) (V'.ext e1) h1)
    | true =>
      refine ite_tt ⟨fun σ5 H5 => ∃ ρ5 st5 en5, Ab Γ.K ρ5 st5 H5 ∧ Ex ρ H ρ5 H5 ∧ Evs Γ ρ5 H5 en5 σ5 ∧ loopW test body N.nx m en5 st5, fun σ5 H5 q => ⟨m, Nat.lt_succ_self m, q⟩, ?_⟩
      have h1' : wSs b Γ.C (N.lp (loopW test body N.nx m)) Xs en' st1 := by rw [hbody] at h1; exact (by rw [hbody]; exact h1)
      have e4 := e'.trans e1
      exact rb en' st1 σ' H1 ρ1 _ Xs _ A1 (V'.ext e1) (B.ext e4) h1' ⟨fun en5 st5 σ5 H5 ρ5 A5 e5 V5 h5 => ⟨ρ5, st5, en5, A5, e4.trans e5, V5, h5⟩, E.rt.ext e4, E.nx.ext e4, fun en5 st5 σ5 H5 ρ5 A5 e5 V5 h5 => ⟨ρ5, st5, en5, A5, e4.trans e5, V5, h5⟩⟩
end
mutual
theorem sndS : ∀ (s : S) (Γ : Gam) (G : GOk Γ) (sc : Scope) (ps : Stmt), chkS s Γ.M Γ.N sc ps = true → SS Γ sc s ps
  | .rais c es, Γ, G, sc, ps, h => by cases ps <;> exact absurd h Bool.false_ne_true
  | .tryx b cs i hd, Γ, G, sc, ps, h => by cases ps <;> exact absurd h Bool.false_ne_true
  | .ex e, Γ, G, sc, ps, h => by
    cases ps with
    | Expr pe p =>
      have h' : (notComp pe && chkE Γ.M Γ.N e sc pe) = true := h
      rw [Bool.and_eq_true] at h'
      exact ss_ex h'.1 (sndE e Γ G sc pe h'.2)
    | _ => exact absurd h Bool.false_ne_true
  | .asg g e, Γ, G, sc, ps, h => by
    cases ps with
    | Assign tgs pe p =>
      match tgs, h with
      | [tg], h =>
        have h' : (decide (asgF sc tg pe ≠ 0) && exnOk Γ.M g && Γ.M.calm && chkTg Γ.N (locB sc) g tg && chkE Γ.M Γ.N e sc pe) = true := by cases tg <;> exact h
        simp only [Bool.and_eq_true, decide_eq_true_eq] at h'
        obtain ⟨⟨⟨⟨h1, h2⟩, h3⟩, h4⟩, h5⟩ := h'
        have three := asgF_12 h1
        rcases three with q | q
        · exact ss_asg1 G h3 h2 q h4 (sndE e Γ G sc pe h5)
        · exact ss_asg2 G h2 q h4 h5
      | [], h => exact absurd h Bool.false_ne_true
      | _ :: _ :: _, h => exact absurd h (by rename_i a b c; cases a <;> exact Bool.false_ne_true)
    | _ => exact absurd h Bool.false_ne_true
  | .six o i v, Γ, G, sc, ps, h => by
    cases ps with
    | Assign tgs pe p =>
      match tgs, h with
      | [tg], h =>
        cases tg with
        | Subscript po pi p2 =>
          have h' : (chkE Γ.M Γ.N o sc po && chkE Γ.M Γ.N i sc pi && chkE Γ.M Γ.N v sc pe) = true := h
          simp only [Bool.and_eq_true] at h'
          exact ss_six (fine_of h'.1.2) (sndE o Γ G sc po h'.1.1) (sndE i Γ G sc pi h'.1.2) (sndE v Γ G sc pe h'.2)
        | _ => exact absurd h Bool.false_ne_true
      | [], h => exact absurd h Bool.false_ne_true
      | _ :: _ :: _, h => exact absurd h (by rename_i a b c; cases a <;> exact Bool.false_ne_true)
    | _ => exact absurd h Bool.false_ne_true
  | .iff c a b, Γ, G, sc, ps, h => by
    cases ps with
    | If pc pa pb p =>
      have h' : (chkT Γ.M Γ.N c sc pc && chkSs a Γ.M Γ.N sc pa && chkSs b Γ.M Γ.N sc pb) = true := h
      simp only [Bool.and_eq_true] at h'
      exact ss_iff (sndT c Γ G sc pc h'.1.1).1 (sndSs a Γ G sc pa h'.1.2) (sndSs b Γ G sc pb h'.2)
    | _ => exact absurd h Bool.false_ne_true
  | .for g it b, Γ, G, sc, ps, h => by
    cases ps with
    | For tg pit pb pe p =>
      cases pe with
      | nil =>
        have h' : (Γ.M.calm && it.tgB tg && exnOk Γ.M g && chkTg Γ.N (locB sc) g tg && chkI Γ.M Γ.N it sc pit && chkSs b Γ.M Γ.N sc pb) = true := h
        simp only [Bool.and_eq_true] at h'
        obtain ⟨⟨⟨⟨⟨h1, h2⟩, h3⟩, h4⟩, h5⟩, h6⟩ := h'
        exact ss_for G h1 h2 h3 h4 (fineI_of h5) (sndI it Γ G sc pit h5) (sndSs b Γ G sc pb h6)
      | cons _ _ => exact absurd h Bool.false_ne_true
    | _ => exact absurd h Bool.false_ne_true
  | .wh c b, Γ, G, sc, ps, h => by
    cases ps with
    | While pc pb pe p =>
      cases pe with
      | nil =>
        have h' : (chkT Γ.M Γ.N c sc pc && chkSs b Γ.M Γ.N sc pb) = true := h
        simp only [Bool.and_eq_true] at h'
        exact ss_wh (sndT c Γ G sc pc h'.1).1 (sndSs b Γ G sc pb h'.2)
      | cons _ _ => exact absurd h Bool.false_ne_true
    | _ => exact absurd h Bool.false_ne_true
  | .ret e, Γ, G, sc, ps, h => by
    cases ps with
    | Return po p =>
      cases po with
      | some pe => exact ss_ret (sndE e Γ G sc pe h)
      | none => cases e <;> first | exact ss_retN | exact absurd h Bool.false_ne_true
    | _ => exact absurd h Bool.false_ne_true
  | .pass, Γ, G, sc, ps, h => by cases ps <;> first | exact ss_pass | exact absurd h Bool.false_ne_true
  | .brk, Γ, G, sc, ps, h => by cases ps <;> first | exact ss_brk | exact absurd h Bool.false_ne_true
  | .cont, Γ, G, sc, ps, h => by cases ps <;> first | exact ss_cont | exact absurd h Bool.false_ne_true
  | .stop, Γ, G, sc, ps, h => ss_stop
theorem sndSs : ∀ (s : Ss) (Γ : Gam) (G : GOk Γ) (sc : Scope) (ps : List Stmt), chkSs s Γ.M Γ.N sc ps = true → SSs Γ sc s ps
  | .nil, Γ, G, sc, [], h => sss_nil
  | .nil, Γ, G, sc, _ :: _, h => absurd h Bool.false_ne_true
  | .cons s r, Γ, G, sc, [], h => absurd h Bool.false_ne_true
  | .cons s r, Γ, G, sc, ps :: pr, h => by
    have h' : (chkS s Γ.M Γ.N sc ps && chkSs r Γ.M Γ.N sc pr) = true := h
    rw [Bool.and_eq_true] at h'
    exact sss_cons (sndS s Γ G sc ps h'.1) (sndSs r Γ G sc pr h'.2)
end
end Q3

set_option Elab.async false
set_option linter.all false
set_option maxRecDepth 100000
set_option maxHeartbeats 4000000
/-! Q3l: defs, constants, the law's end. -/
namespace Q3
open PySem PySem.Spec PyProof.Rows L2
/-! ### a def's scope -/
def fnScopeB (N ps : List Str) (sc : Scope) : Bool :=
  decide (sc.kind = .function) && !sc.isCoroutine && !sc.isGenerator && decide N.Nodup && decide (N.take ps.length = ps) && ps.all (fun x => match sc.names.lookup x with
    | some .local => true
    | some .cell => true
    | _ => false) && sc.names.all (fun y => match y.2 with
    | .free => false
    | _ => true)
theorem fnScope_of {N ps : List Str} {sc : Scope} (h : fnScopeB N ps sc = true) : FnScope N ps sc := by
  unfold fnScopeB at h
  simp only [Bool.and_eq_true, Bool.not_eq_true', decide_eq_true_eq] at h
  obtain ⟨⟨⟨⟨⟨⟨h1, h2⟩, h3⟩, h4⟩, h5⟩, h6⟩, h7⟩ := h
  refine ⟨h1, h2, h3, h4, h5, fun x hx => ?_, fun y hy e => ?_⟩
  · have q := List.all_eq_true.mp h6 x hx
    split at q
    · exact .inl (by assumption)
    · exact .inr (by assumption)
    · cases q
  · have q := List.all_eq_true.mp h7 y hy
    rw [e] at q
    cases q
/-! ### all defs keep what callN tells -/
structure DOk (K : PySem.W.Frag) (mg : Str → Option Value) (M : Nms) (d : Df) (x : Str) : Prop where
  ex : ∃ params body scope N ps fa fd, FunD K x x params body scope [] [] fa fd ∧ mg x = some (.ref fa) ∧ fnScopeB N ps scope = true ∧
    (∀ (kV doc pm : Value) (an : Option Addr) (cdv ct : Value) (us : List Value), us.length = ps.length → bindArgs (PySem.W.fnOf x x params body scope .none kV doc pm an cdv ct) ⟨us, []⟩ = pure (ps.zip us)) ∧
    chkSs d.b M N scope body = true ∧ d.n = N.length ∧ d.a = ps.length
section
variable {P : Program} {w : World} {K : PySem.W.Frag} {mg : Str → Option Value} {base : Heap} {pr : Pr} {M : Nms} {cl : List Value}
abbrev gam (P : Program) (w : World) (K : PySem.W.Frag) (mg : Str → Option Value) (base : Heap) (pr : Pr) (M : Nms) (cl : List Value) (n : Nat) (N : List Str) (W : WX) : Gam := ⟨P, w, K, mg, base, n, pr.cl n, M, N, cl, W⟩
theorem fn_len {n : Nat} {d : Df} {f : Nat} (hp : pr.P[f]? = some d) : ∀ ds st Q Xk, callN pr (n + 1) f ds st Q Xk → ds.length = d.a := fun ds st Q Xk h => by
  obtain ⟨d', e, h1, _⟩ := callN_succ.mp h
  rw [hp] at e
  cases e
  exact h1
theorem fn_okQ {n : Nat} {d : Df} {x : Str} {f : Nat} {params : Arguments} {body : List Stmt} {scope : Scope} {N ps : List Str} {fa : Addr} {fd : FuncData} (hp : pr.P[f]? = some d) (F : FunD K x x params body scope [] [] fa fd) (hsc : fnScopeB N ps scope = true)
    (hck : chkSs d.b M N scope body = true) (hN : d.n = N.length) (ha : d.a = ps.length) (G : ∀ N, N.Nodup → ∀ W, GOk (gam P w K mg base pr M cl n N W)) :
    FnOk P w K mg base (L2.CX P w) (n + 1) fa fd ps (spOf K cl ps.length (callN pr (n + 1) f)) := by
  have S := fnScope_of hsc
  refine F.ok S (fun vs H Q E h => h.1) fun cdv A outer s H vs Q E hr h => ?_
  obtain ⟨hl, ρ, st, ds, Q', Xk, Ab', R, hc, O, OX⟩ := h
  obtain ⟨d', e, hda, hw⟩ := callN_succ.mp hc
  rw [hp] at e
  cases e
  obtain ⟨t, pt, rt⟩ := sndSs d.b (gam P w K mg base pr M cl n N (fun cls dd _ H => E cls dd H)) (G N S.nd _) scope body hck
  refine ⟨t, pt _ ?_, ?_⟩
  · have hroom : Room n (A.deeper (envOfC x scope s.heap.objs.size fa cdv)) := hr
    refine ⟨⟨rfl, rfl, rfl, rfl, rfl, rfl, rfl, fun _ => rfl, takes_of rfl rfl rfl rfl, ?_, fun _ => hroom, fun x e => by cases e⟩, rfl, rfl, passes_of rfl, fun _ => rfl⟩
    have := hroom.un
    show (A.deeper (envOfC x scope s.heap.objs.size fa cdv)).units + 65 < cLine
    omega
  · have hlen : (ds.map some ++ List.replicate (d.n - d.a) none).length = (L2.start N vs).length := by
      unfold L2.start
      rw [List.length_append, List.length_append, List.length_map, List.length_map, List.length_replicate, List.length_replicate, R.length, hN, ha, hl]
    refine rt _ st _ H ρ _ _ _ Ab' ⟨⟨hlen, fun i e he => ?_⟩, fun x i e _ => by cases e⟩ ?_ hw ⟨fun en' st' σ' H' ρ' a e _ h => O .non st' .non H' ρ' a e (rep_non.mpr rfl) h, O, fun _ _ _ _ _ _ _ _ h => h.elim, fun _ _ _ _ _ _ _ _ h => h.elim⟩
    · have hi : i < ds.length := by
        by_cases hi : i < ds.length
        · exact hi
        · rw [List.getElem?_append_right (by simpa using hi), List.getElem?_replicate] at he
          split at he <;> cases he
      rw [List.getElem?_append_left (by simpa using hi), List.getElem?_map] at he
      cases q : ds[i]? with
      | none => rw [q] at he; cases he
      | some d0 =>
        rw [q] at he
        cases he
        obtain ⟨v, hv, rv⟩ := R.get q
        refine ⟨v, ?_, rv⟩
        unfold L2.start
        rw [List.getElem?_append_left (by rw [List.length_map, ← R.length]; exact hi), List.getElem?_map, hv]
        rfl
    · intro c fs cls dd en' σ' st' H' ρ' a e _ r h
      exact OX c fs cls dd st' H' ρ' a e r h
theorem fn_step {n : Nat} {d : Df} {x : Str} {f : Nat} (hp : pr.P[f]? = some d) (D : DOk K mg M d x) (G : ∀ N, N.Nodup → ∀ W, GOk (gam P w K mg base pr M cl n N W)) :
    ∃ fa fd ps, mg x = some (.ref fa) ∧ PySem.W.keepIn K (.ref fa) = true ∧ Binds K fd ps [] ∧ (∀ ds st Q Xk, callN pr (n + 1) f ds st Q Xk → ds.length = ps.length) ∧
      FnOk P w K mg base (L2.CX P w) (n + 1) fa fd ps (spOf K cl ps.length (callN pr (n + 1) f)) := by
  obtain ⟨params, body, scope, N, ps, fa, fd, F, hm, hsc, hb, hck, hN, ha⟩ := D.ex
  have hb2 := FunD.bindsA F hb
  exact ⟨fa, fd, ps, hm, F.kp, fun s us _ hl => by rw [List.append_nil] at hl ⊢; exact hb2 s us hl, fun ds st Q Xk h => by rw [← ha]; exact fn_len hp ds st Q Xk h, fn_okQ hp F hsc hck hN ha G⟩
/-- what the written part says of the program's names -/
structure TxtOk (w : World) (K : PySem.W.Frag) (mg : Str → Option Value) (pr : Pr) (M : Nms) : Prop where
  gl : ∀ (k : Nat) x, M.Gn[k]? = some x → ∃ d u v, pr.G[k]? = some d ∧ mg x = some u ∧ RelV v u ∧ ∀ ρ H, Rep K ρ H d v
  bt : ∀ x ∈ M.B, mg x = none
  fn : ∀ (f : Nat) x, M.F[f]? = some x → ∃ d, pr.P[f]? = some d ∧ DOk K mg M d x
  kd : ∀ (k : Nat) x, M.Kn[k]? = some x → ∃ d es n, mg x = some (.ref d) ∧ KDict K w d es n ∧ ∀ z o, kdAt pr.KD k (.str z) = some o → ∃ r, PySem.W.nsIn K d z = some r ∧ ((o = none ∧ r = none) ∨ ∃ dd u v, o = some dd ∧ r = some u ∧ RelV v u ∧ ∀ ρ H, Rep K ρ H dd v)
theorem gok (T : TxtOk w K mg pr M) : ∀ (n : Nat) (N : List Str), N.Nodup → ∀ W, GOk (gam P w K mg base pr M cl n N W)
  | 0, N, hN, W => ⟨hN, T.gl, T.bt, fun f x h => by
      obtain ⟨d, hd, D⟩ := T.fn f x h
      obtain ⟨params, body, scope, N, ps, fa, fd, F, hm, hsc, hb, hck, _, _⟩ := D.ex
      have hb2 := FunD.bindsA F hb
      refine ⟨fa, fd, ps, hm, F.kp, fun s us _ hl => by rw [List.append_nil] at hl ⊢; exact hb2 s us hl, fun _ _ _ _ h => (callN_zero h).elim, fun vs H Q E h => h.1, fun A outer s H args us vs Q E _ _ _ _ h => ?_⟩
      obtain ⟨_, _, _, _, _, _, _, _, hc, _⟩ := h
      exact (callN_zero hc).elim, fun _ => rfl, T.kd⟩
  | n + 1, N, hN, W => ⟨hN, T.gl, T.bt, fun f x h => by
      obtain ⟨d, hd, D⟩ := T.fn f x h
      obtain ⟨fa, fd, ps, h1, h2, h3, h4, h5⟩ := fn_step hd D (gok T n)
      exact ⟨fa, fd, ps, h1, h2, h3, h4, h5⟩, fun _ => rfl, T.kd⟩
end
/-! ### constants -/
mutual
def repB (K : PySem.W.Frag) : D → Value → Bool
  | .non, .none => true
  | .bl b, .bool c => b == c
  | .int i, .int j _ => decide (i = j)
  | .str x, .str y _ => decide (x = y) && decide (x.length ≤ Lm)
  | .tup ds, .ref a => match K.lookup a with
    | some ⟨.type c, _, .seq its _, _⟩ => decide (c = "tuple") && (decide (its.size ≤ sizeLine) && repsB K ds its.toList)
    | _ => false
  | _, _ => false
def repsB (K : PySem.W.Frag) : List D → List Value → Bool
  | [], [] => true
  | d :: ds, u :: us => repB K d u && repsB K ds us
  | _, _ => false
end
mutual
theorem repB_ok {K : PySem.W.Frag} : ∀ (d : D) (u : Value), repB K d u = true → ∃ v, RelV v u ∧ ∀ ρ H, Rep K ρ H d v
  | .non, u, h => by
    cases u with
    | none => exact ⟨.non, rfl, fun _ _ => rep_non.mpr rfl⟩
    | _ => exact absurd h Bool.false_ne_true
  | .bl b, u, h => by
    cases u with
    | bool c =>
      have e : b = c := by have h' : (b == c) = true := h; exact eq_of_beq h'
      subst e
      exact ⟨.bl b, rfl, fun _ _ => rep_bl.mpr rfl⟩
    | _ => exact absurd h Bool.false_ne_true
  | .int i, u, h => by
    cases u with
    | int j t =>
      have e : i = j := of_decide_eq_true h
      subst e
      exact ⟨.int i, ⟨t, rfl⟩, fun _ _ => rep_int.mpr rfl⟩
    | _ => exact absurd h Bool.false_ne_true
  | .str x, u, h => by
    cases u with
    | str y t =>
      have h' : (decide (x = y) && decide (x.length ≤ Lm)) = true := h
      rw [Bool.and_eq_true, decide_eq_true_eq, decide_eq_true_eq] at h'
      obtain ⟨e, hl⟩ := h'
      subst e
      exact ⟨.str x, ⟨t, rfl⟩, fun _ _ => rep_str.mpr ⟨rfl, hl⟩⟩
    | _ => exact absurd h Bool.false_ne_true
  | .tup ds, u, h => by
    cases u with
    | ref a =>
      have h' : (match K.lookup a with
        | some ⟨.type c, _, .seq its _, _⟩ => decide (c = "tuple") && (decide (its.size ≤ sizeLine) && repsB K ds its.toList)
        | _ => false) = true := h
      cases q : K.lookup a with
      | none => rw [q] at h'; cases h'
      | some o =>
        obtain ⟨oc, od, dt, osl⟩ := o
        rw [q] at h'
        cases oc with
        | type c =>
          cases dt with
          | seq its n =>
            have h2 : (decide (c = "tuple") && (decide (its.size ≤ sizeLine) && repsB K ds its.toList)) = true := h'
            simp only [Bool.and_eq_true, decide_eq_true_eq] at h2
            obtain ⟨h3, h4, h5⟩ := h2
            obtain ⟨vs, rv, rp⟩ := repsB_ok ds its.toList h5
            exact ⟨.ref a, rfl, fun ρ H => rep_tup.mpr ⟨a, vs, rfl, .inr ⟨_, its, n, q, congrArg Value.type h3, rfl, h4, rv⟩, rp ρ H⟩⟩
          | _ => exact absurd h' Bool.false_ne_true
        | _ => cases dt <;> exact absurd h' Bool.false_ne_true
    | _ => exact absurd h Bool.false_ne_true
  | .ref n, u, h => by cases u <;> exact absurd h Bool.false_ne_true
theorem repsB_ok {K : PySem.W.Frag} : ∀ (ds : List D) (us : List Value), repsB K ds us = true → ∃ vs, Vals vs us ∧ ∀ ρ H, Reps K ρ H ds vs
  | [], [], _ => ⟨[], .nil, fun _ _ => reps_nil.mpr rfl⟩
  | [], _ :: _, h => absurd h Bool.false_ne_true
  | _ :: _, [], h => absurd h Bool.false_ne_true
  | d :: ds, u :: us, h => by
    have h' : (repB K d u && repsB K ds us) = true := h
    rw [Bool.and_eq_true] at h'
    obtain ⟨v, r1, p1⟩ := repB_ok d u h'.1
    obtain ⟨vs, r2, p2⟩ := repsB_ok ds us h'.2
    exact ⟨v :: vs, .cons r1 r2, fun ρ H => reps_cons.mpr ⟨v, vs, rfl, p1 ρ H, p2 ρ H⟩⟩
end
def conB (K : PySem.W.Frag) (c : Str × D) : Bool := match PySem.W.nsIn K mainGlobals c.1 with
  | some (some u) => repB K c.2 u
  | _ => false
theorem conB_ok {K : PySem.W.Frag} {h : Heap} {mg : Str → Option Value} (X : K.In h) (G : h.Ns mainGlobals mg) {c : Str × D} (q : conB K c = true) : ∃ u v, mg c.1 = some u ∧ RelV v u ∧ ∀ ρ H, Rep K ρ H c.2 v := by
  unfold conB at q
  cases e : PySem.W.nsIn K mainGlobals c.1 with
  | none => rw [e] at q; cases q
  | some r =>
    rw [e] at q
    cases r with
    | none => cases q
    | some u =>
      obtain ⟨v, h1, h2⟩ := repB_ok c.2 u q
      exact ⟨u, v, PySem.W.mg_of X G e, h1, h2⟩
/-! ### written dicts -/
abbrev Kd : Type := Str × List (Str × D)
def gaD (K : PySem.W.Frag) (x : Str) : Addr := match PySem.W.nsIn K mainGlobals x with
  | some (some (.ref a)) => a
  | _ => 0
def kdB (K : PySem.W.Frag) (t : Kd) : Bool := (match PySem.W.nsIn K mainGlobals t.1 with
  | some (some (.ref _)) => true
  | _ => false) && t.2.all fun q => match PySem.W.nsIn K (gaD K t.1) q.1 with
  | some (some u) => repB K q.2 u
  | _ => false
theorem kdB_ref {K : PySem.W.Frag} {t : Kd} (h : kdB K t = true) : PySem.W.nsIn K mainGlobals t.1 = some (some (.ref (gaD K t.1))) := by
  unfold kdB at h
  rw [Bool.and_eq_true] at h
  unfold gaD
  have h1 := h.1
  split at h1
  · rename_i a e
    rw [e]
  · cases h1
theorem he_find {es : List DictEntry} {P : Params} : ∀ {ks : List Str}, es.map He.keyOf = He.keysIn P ks → ∀ z, z ∉ ks → es.find? (·.key.isStr z) = none ∧ es.any (·.refKey) = false := by
  induction es with
  | nil => intro ks _ z _; exact ⟨rfl, rfl⟩
  | cons e r ih =>
    intro ks h z hz
    cases ks with
    | nil => cases h
    | cons k ks =>
      have h1 : He.keyOf e :: r.map He.keyOf = some (k, PyData.keyHash P k) :: He.keysIn P ks := h
      injection h1 with h2 h3
      rw [List.mem_cons, not_or] at hz
      obtain ⟨i1, i2⟩ := ih h3 z hz.2
      unfold He.keyOf at h2
      split at h2
      · rename_i x t q
        have h4 := Option.some.inj h2
        obtain ⟨h5, h6⟩ := Prod.mk.inj h4
        have e1 : e.key.isStr z = false := by
          rw [q]
          have : ¬ x = z := by rw [h5]; exact fun y => hz.1 y.symm
          show (x == z) = false
          simpa using this
        have e2 : e.refKey = false := by
          unfold DictEntry.refKey
          rw [q]
        exact ⟨by rw [List.find?_cons, e1]; exact i1, by rw [List.any_cons, e2, i2]; rfl⟩
      · cases h2
theorem kd_ok {K : PySem.W.Frag} {w : World} {h : Heap} {mg : Str → Option Value} (X : K.In h) (G : h.Ns mainGlobals mg) {t : Kd} (h1 : kdB K t = true) (h2 : He.dicW K (gaD K t.1) = some (He.keysIn w.params (t.2.map (·.1)))) {kd : List (List (Str × D))} {k : Nat} (hk : kd[k]? = some t.2) :
    ∃ d es n, mg t.1 = some (.ref d) ∧ KDict K w d es n ∧ ∀ z o, kdAt kd k (.str z) = some o → ∃ r, PySem.W.nsIn K d z = some r ∧ ((o = none ∧ r = none) ∨ ∃ dd u v, o = some dd ∧ r = some u ∧ RelV v u ∧ ∀ ρ H, Rep K ρ H dd v) := by
  obtain ⟨es, n, KD⟩ := He.dicW_ok h2
  refine ⟨gaD K t.1, es, n, PySem.W.mg_of X G (kdB_ref h1), KD, fun z o ho => ?_⟩
  have ho' : (kd[k]?).map (fun es => es.lookup z) = some o := ho
  rw [hk] at ho'
  have ho2 : t.2.lookup z = o := Option.some.inj ho'
  cases o with
  | some dd =>
    have hm : (z, dd) ∈ t.2 := by
      have go : ∀ (l : List (Str × D)), l.lookup z = some dd → (z, dd) ∈ l := by
        intro l
        induction l with
        | nil => intro h; cases h
        | cons p l ih =>
          intro h
          obtain ⟨a, b⟩ := p
          rw [List.lookup_cons] at h
          cases e : (z == a) with
          | true =>
            rw [e] at h
            have ez : z = a := eq_of_beq e
            cases h
            subst ez
            exact List.mem_cons_self
          | false =>
            rw [e] at h
            exact List.mem_cons_of_mem _ (ih h)
      exact go _ ho2
    unfold kdB at h1
    rw [Bool.and_eq_true] at h1
    have q := List.all_eq_true.mp h1.2 _ hm
    have q' : (match PySem.W.nsIn K (gaD K t.1) z with
      | some (some u) => repB K dd u
      | _ => false) = true := q
    split at q'
    · rename_i u e
      obtain ⟨v, r1, r2⟩ := repB_ok dd u q'
      exact ⟨some u, e, .inr ⟨dd, u, v, rfl, rfl, r1, r2⟩⟩
    · cases q'
  | none =>
    have hz : z ∉ t.2.map (·.1) := by
      have go : ∀ (l : List (Str × D)), l.lookup z = none → z ∉ l.map (·.1) := by
        intro l
        induction l with
        | nil => intro _ h; cases h
        | cons p l ih =>
          intro h
          obtain ⟨a, b⟩ := p
          rw [List.lookup_cons] at h
          cases e : (z == a) with
          | true => rw [e] at h; cases h
          | false =>
            rw [e] at h
            rw [List.map_cons, List.mem_cons, not_or]
            exact ⟨by simpa using e, ih h⟩
      exact go _ ho2
    have he : es.toList.map He.keyOf = He.keysIn w.params (t.2.map (·.1)) := by
      unfold He.dicW at h2
      rw [KD.at_] at h2
      have h3 : (match decide (("dict" : String) = "dict") && ((#[] : Array (Option Value)).isEmpty && !((gaD K t.1) == sysModules)) with
        | true => some (es.toList.map He.keyOf)
        | false => none) = some (He.keysIn w.params (t.2.map (·.1))) := h2
      rw [KD.low] at h3
      exact Option.some.inj h3
    obtain ⟨f1, f2⟩ := he_find he z hz
    refine ⟨none, ?_, .inl ⟨rfl, rfl⟩⟩
    unfold PySem.W.nsIn
    rw [KD.at_]
    show (match es.toList.find? (·.key.isStr z) with
      | some e => some (some e.val)
      | none => if es.toList.any (·.refKey) then none else some none) = some none
    rw [f1, f2]
    rfl
/-! ### the Hook -/
open He in
abbrev AlQ : Type := (AlD × Bool) × List (Option (List (Option (Str × Int))))
def obsQ (fa : List He.Fa) (fn : List He.DefD) (cs : List (Str × D)) (kd : List Kd) (K : PySem.W.Frag) : AlQ := ((He.obsD fa fn K, cs.all (conB K) && kd.all (kdB K)), kd.map fun t => He.dicW K (gaD K t.1))
def valQ (fn : List He.DefD) (kd : List Kd) (w : World) : AlQ := ((He.valD fn, true), kd.map fun t => some (He.keysIn w.params (t.2.map (·.1))))
def SaysQ (fa : List He.Fa) (fn : List He.DefD) (cs : List (Str × D)) (kd : List Kd) (w : World) (K : PySem.W.Frag) : Prop := obsQ fa fn cs kd K = valQ fn kd w
def obsQG (n : Nat) (fa : List He.Fa) (fn : List He.DefD) (cs : List (Str × D)) (kd : List Kd) (g : Addr → Option Obj) : AlQ := obsQ fa fn cs kd (He.frG g (He.asD g n))
def hookQ (n : Nat) (fa : List He.Fa) (fn : List He.DefD) (cs : List (Str × D)) (kd : List Kd) : PySem.W.Hook where
  α := AlQ
  obs := fun s => obsQG n fa fn cs kd s.heap.get?
  val := fun w => valQ fn kd w
  says := fun w h => ∃ K : PySem.W.Frag, K.In h ∧ SaysQ fa fn cs kd w K
  of := fun _ _ e => ⟨_, He.frG_in, e⟩
  keeps := fun _ _ _ ⟨K, hK, c⟩ k => ⟨K, PySem.W.Frag.In.keeps hK k, c⟩
theorem obsQG_eq {n : Nat} {fa : List He.Fa} {fn : List He.DefD} {cs : List (Str × D)} {kd : List Kd} {g : Addr → Option Obj} {s : Shared} (h : ∀ a, g a = s.heap.get? a) : obsQG n fa fn cs kd g = (hookQ n fa fn cs kd).obs s := by
  have e : g = s.heap.get? := funext h
  rw [e] <;> rfl
section
variable {fa : List He.Fa} {fn : List He.DefD} {cs : List (Str × D)} {kd : List Kd} {w : World} {K : PySem.W.Frag}
theorem SaysQ.d (c : SaysQ fa fn cs kd w K) : He.SaysD fa fn K := congrArg (fun z : AlQ => z.1.1) c
theorem SaysQ.cb (c : SaysQ fa fn cs kd w K) : (cs.all (conB K) && kd.all (kdB K)) = true := congrArg (fun z : AlQ => z.1.2) c
theorem SaysQ.c (c : SaysQ fa fn cs kd w K) : cs.all (conB K) = true := (Bool.and_eq_true_iff.mp c.cb).1
theorem SaysQ.dicts (c : SaysQ fa fn cs kd w K) {h : Heap} {mg : Str → Option Value} (X : K.In h) (G : h.Ns mainGlobals mg) : ∀ (k : Nat) x, (kd.map (·.1))[k]? = some x → ∃ d es n, mg x = some (.ref d) ∧ KDict K w d es n ∧ ∀ z o, kdAt (kd.map (·.2)) k (.str z) = some o → ∃ r, PySem.W.nsIn K d z = some r ∧ ((o = none ∧ r = none) ∨ ∃ dd u v, o = some dd ∧ r = some u ∧ RelV v u ∧ ∀ ρ H, Rep K ρ H dd v) := by
  intro k x hk
  rw [List.getElem?_map, Option.map_eq_some_iff] at hk
  obtain ⟨t, ht, rfl⟩ := hk
  have h1 := List.all_eq_true.mp (Bool.and_eq_true_iff.mp c.cb).2 t (List.mem_of_getElem? ht)
  have e : kd.map (fun t => He.dicW K (gaD K t.1)) = kd.map fun t => some (He.keysIn w.params (t.2.map (·.1))) := congrArg (fun z : AlQ => z.2) c
  have e2 : (kd.map fun t => He.dicW K (gaD K t.1))[k]? = (kd.map fun t => some (He.keysIn w.params (t.2.map (·.1))))[k]? := by rw [e]
  rw [List.getElem?_map, List.getElem?_map, ht] at e2
  exact kd_ok X G h1 (Option.some.inj e2) (by rw [List.getElem?_map, ht]; rfl)
end
/-- a world whose answer to one question stands written -/
def setF (w : World) (b : Bool) : World := { w with params := { w.params with followText := fun s => if s = "special-get-raises" then b else w.params.followText s } }
theorem setF_eq (w : World) : w = setF w (w.params.followText "special-get-raises") := by
  unfold setF
  have e : (fun s => if s = "special-get-raises" then w.params.followText "special-get-raises" else w.params.followText s) = w.params.followText := by
    funext s
    split
    · rename_i h; rw [h]
    · rfl
  rw [e]
/-! ### the law's end -/
/-- the script, frozen -/
def scr (ns : List Int) : Sto := [.fls (ns.map D.int)]
theorem reps_ints {K : PySem.W.Frag} {ρ : List Addr} {H : Hp} : ∀ ns : List Int, Reps K ρ H (ns.map D.int) (ns.map V.int)
  | [] => reps_nil.mpr rfl
  | n :: ns => reps_cons.mpr ⟨_, _, rfl, rep_int.mpr rfl, reps_ints ns⟩
theorem ab_scr {K : PySem.W.Frag} {H : Hp} {a : Addr} {ns : List Int} (hO : Only H) (hS : SqL K H a (ns.map V.int)) : Ab K [a] (scr ns) H := by
  have r : RepO K [a] H (.fls (ns.map D.int)) a := by
    refine ⟨ns.map V.int, ?_, reps_ints ns⟩
    rcases hS with (hS | ⟨o, hS⟩) | hS
    · rcases hO a with z | ⟨o, xs, z⟩
      · rw [hS] at z; cases z
      · rw [hS] at z; cases z
    · exact .inl ⟨o, hS⟩
    · exact .inr hS
  refine ⟨rfl, fun n o b h1 h2 => ?_, fun n m b o o' h1 h2 h3 h4 m1 m2 => ?_⟩
  · cases n with
    | zero => cases h1; cases h2; exact r
    | succ n => simp [scr] at h1
  · cases n with
    | zero => cases h3; cases m1
    | succ n => simp [scr] at h3
theorem sp_law {K : PySem.W.Frag} {H : Hp} {a : Addr} {ns : List Int} {cl : List Value} {c : List D → Sto → KD → KX → Prop} (hO : Only H) (hS : SqL K H a (ns.map V.int)) (h : c [.ref 0] (scr ns) (fun d _ => d = .bl true) noX) :
    spOf K cl 1 c [.ref a] H (fun v _ => v = .bl true) (fun _ _ _ => False) := by
  refine ⟨rfl, [a], scr ns, [.ref 0], _, _, ab_scr hO hS, reps_cons.mpr ⟨_, _, rfl, rep_ref.mpr ⟨a, rfl, rfl⟩, reps_nil.mpr rfl⟩, h, fun d st v H' ρ' _ _ r e => ?_, OutX.no⟩
  subst e
  exact rep_bl.mp r
theorem cx_no {P : Program} {w : World} {H : Hp} {s : Shared} {e : Value} {s' : Shared} (h : L2.CX P w [] H s (fun _ _ _ => False) e s') : False := by
  obtain ⟨_, _, _, _, _, _, _, _, _, _, _, _, z⟩ := h
  exact z
theorem walk_q {l : PySem.W.OpenLaw} {n k f : Nat} {q : Program} {loose : List Str} {XP : (Str → Option Value) → Heap → Prop} {d : DefRec} {j : Nat} {fa : List He.Fa} {fn : List He.DefD} {cs : List (Str × D)} {kd : List Kd} {pr : Pr} {M : Nms}
    (hn : l.most = some n) (hn2 : n ≤ sizeLine) (hdf : d.params.defaults = []) (hr : Room (k + 1) callerA)
    (T : ∀ {w : World} {K : PySem.W.Frag} {h : Heap} {mg : Str → Option Value}, K.In h → h.Ns mainGlobals mg → SaysQ fa fn cs kd w K → TxtOk w K mg pr M) (hf : M.F[f]? = some d.name)
    (main : ∀ ns : List Int, ns.length ≤ n → callN pr (k + 1) f [.ref 0] (scr ns) (fun d _ => d = .bl true) noX) :
    PySem.W.WalkO q loose XP (hookQ j fa fn cs kd).says l.row.toRowW d [] (fun f vs => PySem.call f vs) := by
  refine Att.attach_call hn hdf fun w s₀ s₁ mg mb fa' o pm cd doc a vs ns G Y ho hd hcd hmg hobj hints hlen hg => ?_
  obtain ⟨K, KX, c⟩ := Y
  have TX := T KX G.T.g c
  obtain ⟨d', hp, D⟩ := TX.fn f d.name hf
  obtain ⟨params, body, scope, N, ps, fa2, fd, F, hm, hsc, hb, hck, hN, ha⟩ := D.ex
  rw [hmg] at hm
  cases hm
  have hl1 : ps.length = 1 := by
    have := fn_len hp _ _ _ _ (main [] (Nat.zero_le _))
    rw [← ha, ← this]
    rfl
  obtain ⟨x, rfl⟩ : ∃ x, ps = [x] := List.length_eq_one_iff.mp hl1
  have hb2 := FunD.bindsA F hb
  refine law_call (x := x) (CX := L2.CX l.prog w) (sp := spOf K [] 1 (callN pr (k + 1) f)) KX G.T.g G.T.b G.T.builtins G.T.nolimit hg hobj hints (Nat.le_trans hlen hn2) hr (fun base hB hG => fn_okQ hp F hsc hck hN ha (gok (T hB hG c) k)) (fun s u => hb2 s [u] rfl) (fun H hO hS => sp_law hO hS (main ns hlen)) fun H e s' h => cx_no h
end Q3

set_option Elab.async false
set_option linter.all false
set_option maxRecDepth 100000
/-! Q3m: what the readings want: texts as lists of codes, loops, equality. -/
namespace Q3
open PySem PySem.Spec PyProof.Rows L2
abbrev Sx (l : List Nat) : Str := SX.S l
theorem S_tl (x : Str) : Sx x.cps.toList = x := SX.S_tl x
theorem S_ex (x : Str) : ∃ l, x = Sx l := ⟨x.cps.toList, (S_tl x).symm⟩
theorem S_inj {a b : List Nat} (h : Sx a = Sx b) : a = b := SX.S_inj h
theorem S_len (l : List Nat) : (Sx l).length = l.length := SX.S_len l
theorem S_app (a b : List Nat) : Sx a ++ Sx b = Sx (a ++ b) := SX.S_cat a b
theorem S_dec (a b : List Nat) : decide (Sx a = Sx b) = decide (a = b) := by
  by_cases h : a = b
  · subst h; simp
  · rw [decide_eq_false h, decide_eq_false fun e => h (S_inj e)]
theorem chars_S (l : List Nat) : chars (Sx l) = l.map fun c => D.str (Sx [c]) := rfl
theorem cutS_S (l : List Nat) (lo hi : Option Int) : cutS (Sx l) lo hi = Sx ((l.drop (HT.sIx l.length 0 lo)).take (HT.sIx l.length l.length hi - HT.sIx l.length 0 lo)) := by
  unfold cutS
  rw [S_len]
theorem cut_to (l : List Nat) (k : Nat) : cutS (Sx l) none (some (k : Int)) = Sx (l.take k) := by
  rw [cutS_S, HT.sIx_none, HT.sIx_nat, List.drop_zero, Nat.sub_zero]
  congr 1
  by_cases h : k ≤ l.length
  · rw [Nat.min_eq_left h]
  · rw [Nat.min_eq_right (by omega), List.take_length, List.take_of_length_le (by omega)]
theorem cut_from (l : List Nat) (k : Nat) : cutS (Sx l) (some (k : Int)) none = Sx (l.drop k) := by
  rw [cutS_S, HT.sIx_none, HT.sIx_nat]
  congr 1
  by_cases h : k ≤ l.length
  · rw [Nat.min_eq_left h, List.take_of_length_le (by rw [List.length_drop]; exact Nat.le_refl _)]
  · rw [Nat.min_eq_right (by omega), List.drop_length, List.drop_eq_nil_of_le (by omega), List.take_nil]
theorem cut_mid (l : List Nat) (i j : Nat) (h : j ≤ l.length) : cutS (Sx l) (some (i : Int)) (some (j : Int)) = Sx ((l.drop i).take (j - i)) := by
  rw [cutS_S, HT.sIx_nat, HT.sIx_nat, Nat.min_eq_left h]
  congr 1
  by_cases hi : i ≤ l.length
  · rw [Nat.min_eq_left hi]
  · rw [Nat.min_eq_right (by omega), List.drop_length, List.drop_eq_nil_of_le (by omega), List.take_nil, List.take_nil]
theorem cut_to1 (l : List Nat) : cutS (Sx l) none (some 1) = Sx (l.take 1) := cut_to l 1
theorem cut_from1 (l : List Nat) : cutS (Sx l) (some 1) none = Sx (l.drop 1) := cut_from l 1
theorem cut_from0 (l : List Nat) : cutS (Sx l) (some 0) none = Sx l := cut_from l 0
theorem S_eq {a b : List Nat} : Sx a = Sx b ↔ a = b := ⟨S_inj, fun h => by rw [h]⟩
theorem atI_S {α : Type} {xs : List α} {j : Nat} (h : j < xs.length) : atI xs (j : Int) = some xs[j] := atI_nat (List.getElem?_eq_getElem h)
theorem gOk_nil {st : Sto} : gOk [] st := fun _ h => by simp at h
theorem gOk_one {st : Sto} {a : Nat} {xs : List D} (h : lstAt st a = some xs) : gOk [(a, xs)] st := fun g hg => by
  rw [List.mem_singleton] at hg
  subst hg
  exact h
/-- the statements from the k-th on -/
def drop (k : Nat) (s : Ss) : Ss := match k, s with
  | 0, s => s
  | k + 1, .cons _ r => drop k r
  | _, .nil => .nil
/-- the body of the first loop -/
def forB : Ss → Ss
  | .cons (.for _ _ b) _ => b
  | .cons (.wh _ b) _ => b
  | _ => .nil
/-- the body of a choice -/
def iffA : Ss → Ss
  | .cons (.iff _ a _) _ => a
  | _ => .nil
def iffB : Ss → Ss
  | .cons (.iff _ _ b) _ => b
  | _ => .nil
/-! ### truths -/
theorem br {b : Bool} {A B : Prop} (h1 : b = true → A) (h2 : b = false → B) : Br b A B := by
  cases b with
  | true => exact h1 rfl
  | false => exact h2 rfl
theorem any_str (L : List Str) (w : Str) : (L.map D.str).any (fun z => eqF z (.str w)) = decide (w ∈ L) := by
  induction L with
  | nil => simp
  | cons x L ih =>
    rw [List.map_cons, List.any_cons, ih]
    show ((x == w) || _) = _
    by_cases h : x = w
    · subst h; simp
    · have : (x == w) = false := by simpa using h
      rw [this, Bool.false_or]
      have h' : ¬ w = x := fun e => h e.symm
      simp [h']
theorem in_strs {L : List Str} {w : Str} {st : Sto} {Q : Bool → Sto → Prop} (h : Q (decide (w ∈ L)) st) : (flat (.str w) = true ∧ (L.map D.str).all flat = true) ∧ Q ((L.map D.str).any fun z => eqF z (.str w)) st := by
  refine ⟨⟨rfl, ?_⟩, by rw [any_str]; exact h⟩
  rw [List.all_map, List.all_eq_true]
  exact fun _ _ => rfl
theorem any_int (L : List Int) (i : Int) : (L.map D.int).any (fun z => eqF z (.int i)) = decide (i ∈ L) := by
  induction L with
  | nil => simp
  | cons x L ih =>
    rw [List.map_cons, List.any_cons, ih]
    show ((x == i) || _) = _
    by_cases h : x = i
    · subst h; simp
    · have : (x == i) = false := by simpa using h
      rw [this, Bool.false_or]
      have h' : ¬ i = x := fun e => h e.symm
      simp [h']
/-! ### loops -/
/-- a scan that may end early -/
theorem loopF_scan {gs : List (Nat × List D)} {body : D → (En → Sto → Prop) → En → Sto → Prop} {K : En → Sto → Prop} {α : Type} {f : α → D} {st : Sto} (p : α → Bool) (E : En → Prop) (hg : gOk gs st) :
    ∀ (xs : List α), (∀ x ∈ xs, ∀ K' en, E en → (p x = true → ∀ en', E en' → K' en' st) → body (f x) K' en st) → ((∀ x ∈ xs, p x = true) → ∀ en, E en → K en st) → ∀ en, E en → loopF gs body (xs.map f) K en st
  | [], _, hK, en, he => ⟨hg, hK (by simp) en he⟩
  | x :: xs, hb, hK, en, he => ⟨hg, hb x List.mem_cons_self _ en he fun hx en' he' =>
      loopF_scan p E hg xs (fun y hy => hb y (List.mem_cons_of_mem _ hy)) (fun h => hK fun y hy => by
        rcases List.mem_cons.mp hy with rfl | hy
        · exact hx
        · exact h y hy) en' he'⟩
/-- a loop by its invariant over what is done and what is left -/
theorem loopF_inv {gs : List (Nat × List D)} {body : D → (En → Sto → Prop) → En → Sto → Prop} {K : En → Sto → Prop} {α : Type} {f : α → D} (I : List α → En → Sto → Prop) (all : List α)
    (hg : ∀ pre en st, I pre en st → gOk gs st)
    (hb : ∀ pre x post, all = pre ++ x :: post → ∀ K' en st, I pre en st → (∀ en' st', I (pre ++ [x]) en' st' → K' en' st') → body (f x) K' en st) (hK : ∀ en st, I all en st → K en st) :
    ∀ {en st}, I [] en st → loopF gs body (all.map f) K en st := by
  have go : ∀ (post pre : List α), all = pre ++ post → ∀ en st, I pre en st → loopF gs body (post.map f) K en st := by
    intro post
    induction post with
    | nil => intro pre e en st h; rw [List.append_nil] at e; subst e; exact ⟨hg _ en st h, hK en st h⟩
    | cons x post ih =>
      intro pre e en st h
      refine ⟨hg pre en st h, hb pre x post e _ en st h fun en' st' h' => ?_⟩
      exact ih (pre ++ [x]) (by rw [e, List.append_assoc]; rfl) en' st' h'
  exact fun {en st} h => go all [] rfl en st h
theorem rngL_eq (lo : Int) (n : Nat) : rngL lo n = (List.range n).map fun (k : Nat) => .int (lo + (k : Int)) := by unfold rngL; rfl
/-- a loop over a range -/
theorem loopF_rng {gs : List (Nat × List D)} {body : D → (En → Sto → Prop) → En → Sto → Prop} {K : En → Sto → Prop} {lo : Int} {n : Nat} (I : Nat → En → Sto → Prop)
    (hg : ∀ i en st, I i en st → gOk gs st) (hb : ∀ i : Nat, i < n → ∀ K' en st, I i en st → (∀ en' st', I (i + 1) en' st' → K' en' st') → body (.int (lo + (i : Int))) K' en st) (hK : ∀ en st, I n en st → K en st) {en : En} {st : Sto} (h : I 0 en st) :
    loopF gs body (rngL lo n) K en st := by
  rw [rngL_eq]
  refine loopF_inv (f := fun (k : Nat) => D.int (lo + (k : Int))) (fun pre en st => I pre.length en st) (List.range n) (fun pre en st h => hg _ en st h) (fun pre x post e K' en st h hK' => ?_) (fun en st h => ?_) h
  · have hx : x = pre.length ∧ pre.length < n := by
      have h1 : (List.range n)[pre.length]? = some x := by rw [e]; simp
      have h2 : pre.length < n := by
        have := congrArg List.length e
        rw [List.length_range, List.length_append, List.length_cons] at this
        omega
      rw [List.getElem?_range h2] at h1
      exact ⟨(Option.some.inj h1).symm, h2⟩
    obtain ⟨rfl, hlt⟩ := hx
    refine hb _ hlt K' en st h fun en' st' h' => hK' en' st' ?_
    rw [List.length_append, List.length_singleton]
    exact h'
  · rw [List.length_range] at h
    exact hK en st h
/-- a while by a word and a measure -/
theorem wh_inv {test : En → Sto → (Bool → Sto → Prop) → Prop} {body : (En → Sto → Prop) → En → Sto → Prop} {K : En → Sto → Prop} (I : En → Sto → Prop) (μ : En → Sto → Nat)
    (h : ∀ en st K', I en st → (∀ en' st', I en' st' → μ en' st' < μ en st → K' en' st') → test en st fun b st1 => Br b (body K' en st1) (K en st1)) {en : En} {st : Sto} (h0 : I en st) : ∃ n, loopW test body K n en st := by
  have go : ∀ n en st, I en st → μ en st < n → loopW test body K n en st := by
    intro n
    induction n with
    | zero => intro en st _ hl; omega
    | succ n ih =>
      intro en st hi hl
      exact h en st (loopW test body K n) hi fun en' st' hi' hl' => ih en' st' hi' (by omega)
  exact ⟨μ en st + 1, go _ en st h0 (Nat.lt_succ_self _)⟩
/-! ### the store -/
theorem at_last (st : Sto) (o : O) : (st ++ [o])[st.length]? = some o := by simp
theorem set_last (st : Sto) (o o' : O) : (st ++ [o]).set st.length o' = st ++ [o'] := by simp
theorem at_old {st : Sto} {o : O} {n : Nat} (h : n < st.length) : (st ++ [o])[n]? = st[n]? := List.getElem?_append_left h
/-- a comprehension that makes nothing else: map and filter -/
theorem loopC_map {gs : List (Nat × List D)} {body : D → Sto → (Sto → Prop) → Prop} {K : Sto → Prop} {α : Type} {f : α → D} {st : Sto} (g : α → Option D) (hg : ∀ acc, gOk gs (st ++ [.lst acc])) :
    ∀ (xs : List α) (acc : List D), (∀ x ∈ xs, ∀ acc K', (match g x with
      | some y => acc.length < Lm → K' (st ++ [.lst (acc ++ [y])])
      | none => K' (st ++ [.lst acc])) → acc.length < Lm → body (f x) (st ++ [.lst acc]) K') → acc.length + xs.length ≤ Lm → K (st ++ [.lst (acc ++ xs.filterMap g)]) → loopC gs body (xs.map f) (st ++ [.lst acc]) K
  | [], acc, _, _, hK => ⟨hg acc, by simpa using hK⟩
  | x :: xs, acc, hb, hl, hK => by
    rw [List.length_cons] at hl
    refine ⟨hg acc, hb x List.mem_cons_self acc _ ?_ (by omega)⟩
    have hb' : ∀ y ∈ xs, _ := fun y hy => hb y (List.mem_cons_of_mem _ hy)
    cases q : g x with
    | none =>
      show loopC gs body (xs.map f) (st ++ [.lst acc]) K
      refine loopC_map g hg xs acc hb' (by omega) ?_
      rw [List.filterMap_cons_none q] at hK
      exact hK
    | some y =>
      intro _
      show loopC gs body (xs.map f) (st ++ [.lst (acc ++ [y])]) K
      refine loopC_map g hg xs (acc ++ [y]) hb' (by rw [List.length_append, List.length_singleton]; omega) ?_
      rw [List.filterMap_cons_some q] at hK
      rw [List.append_assoc]
      exact hK
theorem len_lst {st : Sto} {a : Nat} {xs : List D} (h : lstAt st a = some xs) : lenD st (.ref a) = some xs.length := by
  show (match lstAt st a with
    | some xs => some xs.length
    | none => dicLen st (.ref a)) = _
  rw [h]
theorem mtOk_lst {m : Mt} {st : Sto} {a : Nat} {xs : List D} (hm : (!m.onStr && !m.onDic) = true) (h : lstAt st a = some xs) : mtOk m st (.ref a) = true := by
  rw [Bool.and_eq_true] at hm
  show (!m.onStr && (if m.onDic = true then (dicLen st (.ref a)).isSome else (lstAt st a).isSome)) = true
  rw [hm.1, if_neg (by have := hm.2; revert this; cases m.onDic <;> simp), h]; rfl
theorem lst_last (st : Sto) (xs : List D) : lstAt (st ++ [.lst xs]) st.length = some xs := by unfold lstAt; rw [at_last]
theorem lst_app {st : Sto} {a : Nat} {xs : List D} (e : Sto) (h : lstAt st a = some xs) : lstAt (st ++ e) a = some xs := by
  unfold lstAt at h ⊢
  by_cases hl : a < st.length
  · rw [List.getElem?_append_left hl]; exact h
  · rw [List.getElem?_eq_none (by omega)] at h; cases h
theorem lst_lt {st : Sto} {a : Nat} {xs : List D} (h : lstAt st a = some xs) : a < st.length := by
  unfold lstAt at h
  by_cases hl : a < st.length
  · exact hl
  · rw [List.getElem?_eq_none (by omega)] at h; cases h
theorem get_app {st : Sto} {a : Nat} {o : O} (e : Sto) (h : st[a]? = some o) : (st ++ e)[a]? = some o := by
  rw [List.getElem?_append_left (List.getElem?_eq_some_iff.mp h).1]; exact h
theorem set_app {st : Sto} {a : Nat} {o : O} (e : Sto) (h : a < st.length) : (st ++ e).set a o = st.set a o ++ e := by
  rw [List.set_append_left _ _ h]
/-! ### equality -/
theorem eqvAll_strs : ∀ (L M : List Str), PyData.eqvAll (L.map PyData.str) (M.map PyData.str) = decide (L = M)
  | [], [] => by simp [PyData.eqvAll]
  | [], _ :: _ => by simp [PyData.eqvAll]
  | _ :: _, [] => by simp [PyData.eqvAll]
  | x :: L, y :: M => by
    rw [List.map_cons, List.map_cons, PyData.eqvAll, eqvAll_strs L M]
    show (x == y && _) = _
    by_cases h : x = y
    · subst h; simp
    · have : (x == y) = false := by simpa using h
      rw [this]; simp [h]
theorem lay_strs : ∀ (L : List Str), (∀ x ∈ L, PyData.strOk x = true) → PyData.canLayAll0 (L.map PyData.str) = true
  | [], _ => by simp [PyData.canLayAll0]
  | x :: L, h => by
    rw [List.map_cons, PyData.canLayAll0, lay_strs L fun y hy => h y (List.mem_cons_of_mem _ hy)]
    rw [PyData.canLay0, h x List.mem_cons_self]; rfl
theorem depth_strs : ∀ (L : List Str), PyData.depthAll (L.map PyData.str) = 0
  | [] => by simp [PyData.depthAll]
  | x :: L => by rw [List.map_cons, PyData.depthAll, depth_strs L]; simp [PyData.depth]
theorem ok_S {l : List Nat} (h : ∀ c ∈ l, c < 128) : PyData.strOk (Sx l) = true := by
  unfold PyData.strOk
  rw [← Array.all_toList, List.all_eq_true]
  intro c hc
  have := h c hc
  exact decide_eq_true (by omega)
theorem mapM_eq {α β : Type} {f : α → Option β} {g : α → β} : ∀ (xs : List α), (∀ x ∈ xs, f x = some (g x)) → xs.mapM f = some (xs.map g)
  | [], _ => rfl
  | x :: xs, h => by
    rw [List.mapM_cons, h x List.mem_cons_self, mapM_eq xs fun y hy => h y (List.mem_cons_of_mem _ hy)]
    rfl
theorem toP_lst {n : Nat} {st : Sto} {a : Nat} {xs : List D} {ps : List PyData} (h : lstAt st a = some xs) (hp : xs.mapM (toP n st) = some ps) : toP (n + 1) st (.ref a) = some (.list ps) := by
  show (match lstAt st a with
    | some xs => (xs.mapM (toP n st)).map PyData.list
    | none => none) = _
  rw [h]
  show (xs.mapM (toP n st)).map PyData.list = _
  rw [hp]; rfl
theorem toP_strs {n : Nat} {st : Sto} {a : Nat} {L : List Str} (h : lstAt st a = some (L.map D.str)) : toP (n + 2) st (.ref a) = some (.list (L.map PyData.str)) := by
  refine toP_lst h ?_
  rw [mapM_eq (g := fun d => match d with | .str x => PyData.str x | _ => .none)]
  · rw [List.map_map]; rfl
  · intro x hx
    obtain ⟨y, _, rfl⟩ := List.mem_map.mp hx
    rfl
theorem wEq_strs {st : Sto} {a b : Nat} {L M : List Str} {Q : Bool → Sto → Prop} (ha : lstAt st a = some (L.map D.str)) (hb : lstAt st b = some (M.map D.str)) (hL : ∀ x ∈ L, PyData.strOk x = true) (hM : ∀ x ∈ M, PyData.strOk x = true) (h : Q (decide (L = M)) st) :
    wEq (.ref a) (.ref b) st Q := by
  refine .inr ?_
  rw [toP_strs (n := 64) ha, toP_strs (n := 64) hb]
  have sh : ∀ L : List Str, (∀ x ∈ L, PyData.strOk x = true) → SeqAt.shaped (.list (L.map PyData.str)) = true := fun L hL => by
    unfold SeqAt.shaped
    rw [PyData.canLay0, lay_strs L hL, PyData.depth, depth_strs]; rfl
  refine ⟨⟨sh L hL, sh M hM⟩, ?_⟩
  rw [PyData.eqv, eqvAll_strs]
  exact h
theorem wEq_same {x y : D} {st : Sto} {Q : Bool → Sto → Prop} {p : PyData} (hx : toP fuelP st x = some p) (hy : toP fuelP st y = some p) (hs : SeqAt.shaped p = true) (h : Q true st) : wEq x y st Q := by
  have gen : (match toP fuelP st x, toP fuelP st y with
    | some p, some q => (SeqAt.shaped p = true ∧ SeqAt.shaped q = true) ∧ Q (PyData.eqv p q) st
    | _, _ => False) := by
    rw [hx, hy]
    exact ⟨⟨hs, hs⟩, by rw [SeqAt.eqv_refl p (SeqAt.canLay_of_shaped hs)]; exact h⟩
  cases x <;> cases y <;> first
    | exact .inr gen
    | (cases hx; cases hy
       unfold wEq
       simpa using h)
theorem mapM_some {α : Type} {f : D → Option PyData} {g : α → D} {k : α → PyData} : ∀ (xs : List α), (∀ x ∈ xs, f (g x) = some (k x)) → (xs.map g).mapM f = some (xs.map k)
  | [], _ => rfl
  | x :: xs, h => by
    rw [List.map_cons, List.mapM_cons, h x List.mem_cons_self, mapM_some xs fun y hy => h y (List.mem_cons_of_mem _ hy)]
    rfl
theorem wIn_lst {st : Sto} {a : Nat} {L : List Str} {w : Str} {Q : Bool → Sto → Prop} (h : lstAt st a = some (L.map D.str)) (hq : Q (decide (w ∈ L)) st) : wIn (.str w) (.ref a) st Q := by
  show (match lstAt st a with
    | some ys => (flat (.str w) = true ∧ ys.all flat = true) ∧ Q (ys.any fun z => eqF z (.str w)) st
    | none => match dicGet st (.ref a) (.str w) with
      | some o => Q o.isSome st
      | none => False)
  rw [h]
  refine ⟨⟨rfl, ?_⟩, by rw [any_str]; exact hq⟩
  rw [List.all_map, List.all_eq_true]
  exact fun _ _ => rfl
theorem filterMap_if {α : Type} (xs : List α) (p : α → Bool) (f : α → D) : xs.filterMap (fun x => if p x = true then some (f x) else none) = (xs.filter p).map f := by
  induction xs with
  | nil => rfl
  | cons x xs ih =>
    by_cases h : p x = true
    · rw [List.filterMap_cons_some (by rw [if_pos h]), List.filter_cons_of_pos h, List.map_cons, ih]
    · rw [List.filterMap_cons_none (by rw [if_neg h]), List.filter_cons_of_neg h, ih]
theorem cIn_lst {st : Sto} {a : Nat} {L : List Str} {w : Str} {Q : Bool → Sto → Prop} (h : lstAt st a = some (L.map D.str)) (hq : Q (decide (w ∈ L)) st) : wCmp .isin (.str w) (.ref a) st Q := wIn_lst h hq
theorem cNotin_lst {st : Sto} {a : Nat} {L : List Str} {w : Str} {Q : Bool → Sto → Prop} (h : lstAt st a = some (L.map D.str)) (hq : Q (!decide (w ∈ L)) st) : wCmp .notin (.str w) (.ref a) st Q := wIn_lst (Q := fun b st' => Q (!b) st') h hq
theorem cEq_strs {st : Sto} {a b : Nat} {L M : List Str} {Q : Bool → Sto → Prop} (ha : lstAt st a = some (L.map D.str)) (hb : lstAt st b = some (M.map D.str)) (hL : ∀ x ∈ L, PyData.strOk x = true) (hM : ∀ x ∈ M, PyData.strOk x = true) (h : Q (decide (L = M)) st) :
    wCmp .eq (.ref a) (.ref b) st Q := wEq_strs ha hb hL hM h
theorem cEq_same {x y : D} {st : Sto} {Q : Bool → Sto → Prop} {p : PyData} (hx : toP fuelP st x = some p) (hy : toP fuelP st y = some p) (hs : SeqAt.shaped p = true) (h : Q true st) : wCmp .eq x y st Q := wEq_same hx hy hs h
theorem cNe_same {x y : D} {st : Sto} {Q : Bool → Sto → Prop} {p : PyData} (hx : toP fuelP st x = some p) (hy : toP fuelP st y = some p) (hs : SeqAt.shaped p = true) (h : Q false st) : wCmp .ne x y st Q := wEq_same (Q := fun b st' => Q (!b) st') hx hy hs h
theorem starts_one (w : List Nat) (c : Nat) : Txt.startswith (Sx w) (Sx [c]) = decide (w.take 1 = [c]) := by
  have h := StrLaws.subAt_one (Sx w) c 0
  unfold Txt.startswith
  rw [Bool.eq_iff_iff, Bool.and_eq_true, decide_eq_true_eq, decide_eq_true_eq]
  refine Iff.trans h ?_
  show w[0]? = some c ↔ _
  cases w with
  | nil => simp
  | cons a r => simp
theorem snocRec {α : Type} {motive : List α → Prop} (nil : motive []) (snoc : ∀ l a, motive l → motive (l ++ [a])) (l : List α) : motive l := by
  have go : ∀ r : List α, motive r.reverse := by
    intro r
    induction r with
    | nil => exact nil
    | cons a r ih => rw [List.reverse_cons]; exact snoc _ _ ih
  have := go l.reverse
  rwa [List.reverse_reverse] at this
/-! ### numbers as texts -/
theorem str_nat (n : Nat) : (toString ((n : Nat) : Int) : Str) = Sx (TL.numL n) := SX.num_S n
theorem str_neg (n : Nat) (h : 0 < n) : (toString (-((n : Nat) : Int)) : Str) = Sx (45 :: TL.numL n) := by
  obtain ⟨m, rfl⟩ : ∃ m, n = m + 1 := ⟨n - 1, by omega⟩
  have e : toString (-(((m + 1 : Nat)) : Int)) = "-" ++ toString ((((m + 1 : Nat)) : Int)) := rfl
  apply TL.ext_tl
  rw [e, TL.tl_ofString, String.toList_append, List.map_append]
  have e2 := TL.tl_num (m + 1)
  rw [TL.tl_ofString] at e2
  rw [e2]
  rfl
theorem dv_snoc (l : List Nat) (c : Nat) : NumText.digitsVal (l ++ [c]) = NumText.digitsVal l * 10 + (c - 48) := by
  unfold NumText.digitsVal
  rw [List.foldl_append]; rfl
theorem dv_lt : ∀ (l : List Nat), NumText.AllDigits l → NumText.digitsVal l < 10 ^ l.length := by
  intro l
  induction l using snocRec with
  | nil => intro _; decide
  | snoc l c ih =>
    intro h
    have h1 := ih fun d hd => h d (List.mem_append_left _ hd)
    have h2 := h c (by simp)
    rw [dv_snoc, List.length_append, List.length_singleton, Nat.pow_succ]
    omega
theorem log_ok {n : Nat} (h : n < 2 ^ 1000) : n.log2 < 1920 := by
  by_cases h0 : n = 0
  · subst h0; decide
  · have := (Nat.log2_lt h0).mpr h
    omega
theorem numL_len_le {n k : Nat} (hk : 0 < k) (h : n < 10 ^ k) : (TL.numL n).length ≤ k := TL.numL_len hk h
/-- the figures of a number, back: no nought ahead -/
theorem numL_dv : ∀ (l : List Nat), NumText.AllDigits l → l ≠ [] → (TL.numL (NumText.digitsVal l) = l ↔ (l[0]? ≠ some 48 ∨ l = [48])) := by
  intro l
  induction l using snocRec with
  | nil => intro _ h; exact absurd rfl h
  | snoc l c ih =>
    intro h _
    have hc := h c (by simp)
    have hd : NumText.AllDigits l := fun d hd => h d (List.mem_append_left _ hd)
    by_cases hl : l = []
    · subst hl
      rw [dv_snoc]
      show TL.numL (0 * 10 + (c - 48)) = [c] ↔ _
      rw [Nat.zero_mul, Nat.zero_add, TL.numL_lt (by omega)]
      constructor
      · intro _
        by_cases h48 : c = 48
        · exact .inr (by rw [h48]; rfl)
        · exact .inl (by simp; exact h48)
      · intro _
        rw [show 48 + (c - 48) = c by omega]
    · have ih' := ih hd hl
      rw [dv_snoc]
      have e0 : (l ++ [c])[0]? = l[0]? := by
        cases l with
        | nil => exact absurd rfl hl
        | cons a r => rfl
      have ne : l ++ [c] ≠ [48] := by
        intro e
        have := congrArg List.length e
        rw [List.length_append, List.length_singleton] at this
        have h1 : 0 < l.length := List.length_pos_iff.mpr hl
        have h2 : ([48] : List Nat).length = 1 := rfl
        omega
      rw [e0]
      by_cases hz : NumText.digitsVal l = 0
      · rw [hz, Nat.zero_mul, Nat.zero_add, TL.numL_lt (by omega)]
        constructor
        · intro e
          have := congrArg List.length e
          rw [List.length_append, List.length_singleton, List.length_singleton] at this
          have h1 : 0 < l.length := List.length_pos_iff.mpr hl
          omega
        · intro e
          rcases e with e | e
          · have := ih'.mpr (.inl e)
            rw [hz, TL.numL_lt (by omega)] at this
            rw [← this] at e
            exact absurd rfl e
          · exact absurd e ne
      · rw [TL.numL_step (by omega)]
        rw [show (NumText.digitsVal l * 10 + (c - 48)) / 10 = NumText.digitsVal l by omega, show 48 + (NumText.digitsVal l * 10 + (c - 48)) % 10 = c by omega]
        constructor
        · intro e
          have e2 : TL.numL (NumText.digitsVal l) = l := List.append_cancel_right e
          rcases ih'.mp e2 with q | q
          · exact .inl q
          · subst q
            exact absurd rfl hz
        · intro e
          rcases e with e | e
          · rw [ih'.mpr (.inl e)]
          · exact absurd e ne
theorem strInt (i : Int) {k : Nat} (hk : 0 < k) (h : i.natAbs < 10 ^ k) : (toString i : Str).length ≤ k + 1 ∧ (∀ c ∈ (toString i : Str).cps.toList, c < 128) := by
  by_cases h0 : 0 ≤ i
  · obtain ⟨n, rfl⟩ : ∃ n : Nat, i = (n : Int) := ⟨i.toNat, by omega⟩
    have hn : n < 10 ^ k := by omega
    rw [str_nat]
    refine ⟨by rw [S_len]; have := numL_len_le hk hn; omega, fun c hc => ?_⟩
    have := TL.numL_digits n c hc
    omega
  · obtain ⟨n, rfl⟩ : ∃ n : Nat, i = -((n : Nat) : Int) := ⟨(-i).toNat, by omega⟩
    have hn : n < 10 ^ k := by omega
    rw [str_neg n (by omega)]
    refine ⟨by rw [S_len, List.length_cons]; have := numL_len_le hk hn; omega, fun c hc => ?_⟩
    rcases List.mem_cons.mp (show c ∈ 45 :: TL.numL n from hc) with rfl | hc
    · omega
    · have := TL.numL_digits n c hc
      omega
theorem mem_cutS {z : Str} {lo hi : Option Int} {c : Nat} (h : c ∈ (L2.cutS z lo hi).cps.toList) : c ∈ z.cps.toList := by
  unfold L2.cutS at h
  exact List.mem_of_mem_drop (List.mem_of_mem_take h)
theorem app_len (a b : Str) : (a ++ b).length = a.length + b.length := by show (a.cps ++ b.cps).size = _; exact Array.size_append
theorem app_mem {a b : Str} {c : Nat} (h : c ∈ (a ++ b).cps.toList) : c ∈ a.cps.toList ∨ c ∈ b.cps.toList := by
  have e := TL.tl_append a b
  rw [show (a ++ b).cps.toList = _ from e] at h
  exact List.mem_append.mp h
end Q3

set_option Elab.async false
set_option linter.all false
set_option maxRecDepth 100000
set_option maxHeartbeats 2000000
/-! Q3n: a draw out of the script, as several laws have it. -/
namespace Q3
open PySem
open L2 (atI cutS)
local macro_rules | `(tactic| walk_at "w") => `(tactic| conv => whnf)
/-- slots: 0 script 1 k 2 many 3 cell 4 left 5 j 6 seed -/
def sDraw : Ss := (.cons
 (.asg (.nm 3) (.ite (.val (.cmp .gt (.bf .len (.cons (.var 0) .nil)) (.int 0))) (.ix (.var 0) (.bin .mod (.var 1) (.bf .len (.cons (.var 0) .nil)))) (.int 0))) (.cons
 (.asg (.nm 4) (.var 3)) (.cons
 (.iff (.val (.cmp .ge (.var 3) (.bin .pow (.int 10) (.int 18)))) (.cons
  (.for (.nm 5) (.rng1 (.bin .mod (.bin .fdiv (.var 1) (.bf .len (.cons (.var 0) .nil))) (.int 60))) (.cons
   (.asg (.nm 4) (.bin .fdiv (.var 4) (.int 1000003))) .nil)) (.cons
  (.iff (.val (.cmp .gt (.var 4) (.int 0))) (.cons
   (.ret (.bin .mod (.bin .mod (.bin .fdiv (.var 4) (.int 2)) (.int 500009)) (.var 2))) .nil) .nil) .nil)) .nil) (.cons
 (.asg (.nm 6) (.bin .add (.bin .add (.bin .mod (.var 3) (.int 1000003)) (.bin .mul (.bin .mul (.int 31) (.var 1)) (.var 1))) (.int 1))) (.cons
 (.ret (.bin .mod (.bin .mod (.bin .mul (.bin .mod (.bin .mul (.var 6) (.int 48271)) (.int 999983)) (.int 7919)) (.int 524287)) (.var 2))) .nil)))))
theorem draw_ok {p : Pr} {f n : Nat} (hp : p.P[f]? = some ⟨7, 3, sDraw⟩) {a : Nat} {ns : List Int} {st : Sto} (hs : lstAt st a = some (ns.map D.int)) (hns : ns.length ≤ 63) {k many : Int} (hk : 0 ≤ k ∧ k ≤ 1000000) (hm : 0 < many) {Q : KD} {X : KX}
    (hQ : ∀ v, 0 ≤ v → v < many → Q (.int v) st) : callN p (n + 1) f [.ref a, .int k, .int many] st Q X := by
  refine callN_run hp rfl ?_
  have fin : ∀ x : Int, Q (.int (x % many)) st := fun x => hQ _ (Int.emod_nonneg _ (by omega)) (Int.emod_lt_of_pos _ hm)
  have last : ∀ (c : Int) (o4 o5 o6 : Option D), wSs (drop 3 sDraw) (p.cl n) { nx := fun _ st' => Q .non st', rt := Q } (fun c fs _ st' => X c fs st') [some (.ref a), some (.int k), some (.int many), some (.int c), o4, o5, o6] st := by
    intro c o4 o5 o6
    walk_at "w"
    refine ⟨.inl (.inl (by decide)), ?_⟩
    walk_at "w"
    refine ⟨.inl (.inr (by omega)), ?_⟩
    walk_at "w"
    refine ⟨.inl (.inr (by decide)), ?_⟩
    walk_at "w"
    refine ⟨.inl (.inr (by decide)), ?_⟩
    walk_at "w"
    rw [decide_eq_true hm]
    exact fin _
  have main : ∀ c : Int, (c ≥ 10 ^ 18 → 0 < ns.length) → wSs (drop 1 sDraw) (p.cl n) { nx := fun _ st' => Q .non st', rt := Q } (fun c fs _ st' => X c fs st') [some (.ref a), some (.int k), some (.int many), some (.int c), none, none, none] st := by
    intro c hc
    walk_at "w"
    split
    · rename_i e
      have hl : 0 < ns.length := hc (of_decide_eq_true e)
      walk_at "w"
      rw [len_lst hs]
      walk_at "w"
      rw [List.length_map, dvOk_mk (by omega) (by omega)]
      walk_at "w"
      rw [dec62_mk (by have := Int.emod_nonneg (k / (ns.length : Int)) (b := 60) (by decide); omega) (by have := Int.emod_lt_of_pos (k / (ns.length : Int)) (b := 60) (by decide); omega)]
      walk_at "w"
      refine loopF_rng (fun _ en st' => st' = st ∧ ∃ l o5, en = [some (.ref a), some (.int k), some (.int many), some (.int c), some (.int l), o5, none]) (fun _ _ _ _ => gOk_nil) ?_ ?_ ⟨rfl, _, _, rfl⟩
      · rintro i hi K' en st' ⟨rfl, l, o5, rfl⟩ hK
        walk_at "w"
        exact hK _ _ ⟨rfl, _, _, rfl⟩
      · rintro en st' ⟨rfl, l, o5, rfl⟩
        walk_at "w"
        split
        · walk_at "w"
          rw [decide_eq_true hm]
          exact fin _
        · exact last _ _ _ _
    · exact last _ _ _ _
  walk_at "w"
  rw [len_lst hs]
  walk_at "w"
  rw [List.length_map]
  split
  · rename_i e
    have hl : 0 < ns.length := by have := of_decide_eq_true e; omega
    walk_at "w"
    rw [len_lst hs]
    walk_at "w"
    rw [List.length_map, decide_eq_true (show (0 : Int) < (ns.length : Int) by omega)]
    walk_at "w"
    rw [show seqOf st (D.ref a) = some (ns.map D.int) from hs]
    have hj : ∃ j : Nat, k % (ns.length : Int) = (j : Int) ∧ j < ns.length := by
      have h1 := Int.emod_nonneg k (b := (ns.length : Int)) (by omega)
      have h2 := Int.emod_lt_of_pos k (b := (ns.length : Int)) (by omega)
      exact ⟨(k % (ns.length : Int)).toNat, by omega, by omega⟩
    obtain ⟨j, hj1, hj2⟩ := hj
    rw [hj1]
    have hat : atI (ns.map D.int) (j : Int) = some (.int ns[j]) := by
      have h := atI_S (xs := ns.map D.int) (j := j) (by rw [List.length_map]; exact hj2)
      rw [h]; simp
    walk_at "w"
    rw [hat]
    exact main _ fun _ => hl
  · rename_i e
    exact main 0 fun h => absurd h (by decide)
end Q3

set_option Elab.async false
set_option linter.all false
set_option maxRecDepth 100000
set_option maxHeartbeats 2000000
/-! Q3p: more of the plain helpers. -/
namespace Q3
open PySem
open L2 (atI cutS)
theorem cut_len (z : Str) (lo hi : Option Int) : (cutS z lo hi).length ≤ z.length := L2.cutS_length z lo hi
theorem sign_of {t : String} (h : ∀ c ∈ (Str.ofString t).cps.toList, c < 128) {v : Int} (v0 : 0 ≤ v) (v1 : v < ((Str.ofString t).cps.toList.length : Nat)) : ∃ sg, atI (Str.ofString t).cps.toList v = some sg ∧ sg < 128 := by
  obtain ⟨j, rfl⟩ : ∃ j : Nat, v = (j : Int) := ⟨v.toNat, by omega⟩
  exact ⟨_, atI_S (by omega), h _ (List.getElem_mem _)⟩
theorem seq_last (st : Sto) (xs : List D) : seqOf (st ++ [.lst xs]) (.ref st.length) = some xs := lst_last _ _
theorem seq_app {st : Sto} {a : Nat} {xs : List D} (e : Sto) (h : seqOf st (.ref a) = some xs) : seqOf (st ++ e) (.ref a) = some xs := lst_app e h
theorem ne_bl {b : Bool} {st : Sto} {Q : Bool → Sto → Prop} (h : Q false st) : wCmp .ne (.bl b) (.bl b) st Q := by
  cases b <;> exact h
theorem ne_int {b : Int} {st : Sto} {Q : Bool → Sto → Prop} (h : Q false st) : wCmp .ne (.int b) (.int b) st Q := by
  show Q (!decide (b = b)) st
  rw [decide_eq_true rfl]; exact h
theorem ne_str {b : Str} {st : Sto} {Q : Bool → Sto → Prop} (h : Q false st) : wCmp .ne (.str b) (.str b) st Q := by
  show Q (!decide (b = b)) st
  rw [decide_eq_true rfl]; exact h
theorem strsOf_map : ∀ L : List Str, strsOf (L.map D.str) = some L
  | [] => rfl
  | x :: r => by
    show (strsOf (r.map D.str)).map (x :: ·) = _
    rw [strsOf_map r]; rfl
theorem joinL_nil : ∀ L : List (List Nat), TL.joinL [] L = L.flatten
  | [] => rfl
  | [x] => by simp [TL.joinL]
  | x :: y :: r => by
    have ih := joinL_nil (y :: r)
    simp only [TL.joinL] at ih ⊢
    rw [ih]; simp
theorem nil_S : (Str.ofString "") = Sx [] := by decide +kernel
/-- `''.join(..)` -/
theorem join_nil (L : List (List Nat)) : Txt.join (Str.ofString "") (L.map Sx) = Sx L.flatten := by
  rw [nil_S, SX.join_S, joinL_nil]
theorem toP_tup {n : Nat} {st : Sto} {xs : List D} {ps : List PyData} (hp : xs.mapM (toP n st) = some ps) : toP (n + 1) st (.tup xs) = some (.tuple ps) := by
  show Option.map PyData.tuple (xs.mapM (toP n st)) = _
  rw [hp]; rfl
theorem toP_str {n : Nat} {st : Sto} {x : Str} : toP (n + 1) st (.str x) = some (.str x) := rfl
theorem toP_int {n : Nat} {st : Sto} {x : Int} : toP (n + 1) st (.int x) = some (.int x) := rfl
theorem two_le (a b : D) : [a, b].length ≤ Lm := by
  show 2 ≤ 16777216
  decide
theorem one_le (a : D) : [a].length ≤ Lm := by
  show 1 ≤ 16777216
  decide
theorem four_le (a b c d : D) : [a, b, c, d].length ≤ Lm := by
  show 4 ≤ 16777216
  decide
theorem three_le (a b c : D) : [a, b, c].length ≤ Lm := by
  show 3 ≤ 16777216
  decide
/-- slot steps of a walk over the store's last list -/
theorem mt_last {m : Mt} (hm : (!m.onStr && !m.onDic) = true) (st : Sto) (xs : List D) : mtOk m (st ++ [.lst xs]) (.ref st.length) = true := mtOk_lst hm (lst_last _ _)
theorem sum_flat : ∀ L : List (List Nat), ((L.map Sx).map (·.length)).sum = L.flatten.length
  | [] => rfl
  | l :: L => by
    have ih := sum_flat L
    simp only [List.map_cons, List.sum_cons, List.flatten_cons, List.length_append, S_len] at ih ⊢
    rw [ih]
theorem strsOf_S (L : List (List Nat)) : strsOf (L.map fun l => D.str (Sx l)) = some (L.map Sx) := by
  rw [show L.map (fun l => D.str (Sx l)) = (L.map Sx).map D.str by simp, strsOf_map]
theorem join_le1 {L : List (List Nat)} (h : L.flatten.length ≤ Lm) : ((L.map Sx).map (·.length)).sum + (L.map Sx).length * (Str.ofString "").length ≤ Lm := by
  rw [sum_flat, show (Str.ofString "").length = 0 by decide, Nat.mul_zero]; exact h
theorem join_le2 {L : List (List Nat)} (h : L.flatten.length ≤ Lm) : (Txt.join (Str.ofString "") (L.map Sx)).length ≤ Lm := by
  rw [join_nil, S_len]; exact h
/-- a comprehension by its invariant over what is done and what is made -/
theorem loopC_inv {gs : List (Nat × List D)} {body : D → Sto → (Sto → Prop) → Prop} {K : Sto → Prop} {α : Type} {f : α → D} {st : Sto} (I : List α → List D → Prop) (all : List α) (hg : ∀ acc, gOk gs (st ++ [.lst acc]))
    (hb : ∀ pre x post, all = pre ++ x :: post → ∀ acc K', I pre acc → acc.length ≤ pre.length → (∀ acc', I (pre ++ [x]) acc' → acc'.length ≤ pre.length + 1 → K' (st ++ [.lst acc'])) → body (f x) (st ++ [.lst acc]) K') (hK : ∀ acc, I all acc → acc.length ≤ all.length → K (st ++ [.lst acc])) (h0 : I [] []) : loopC gs body (all.map f) (st ++ [.lst []]) K := by
  have go : ∀ (post pre : List α), all = pre ++ post → ∀ acc, I pre acc → acc.length ≤ pre.length → loopC gs body (post.map f) (st ++ [.lst acc]) K := by
    intro post
    induction post with
    | nil => intro pre e acc h hl; rw [List.append_nil] at e; subst e; exact ⟨hg acc, hK acc h hl⟩
    | cons x post ih =>
      intro pre e acc h hl
      refine ⟨hg acc, hb pre x post e acc _ h hl fun acc' h' hl' => ih (pre ++ [x]) (by rw [e]; simp) acc' h' (by simpa using hl')⟩
  exact go all [] rfl [] h0 (Nat.le_refl _)
theorem flat_one : ∀ l : List Nat, (l.map fun c => [c]).flatten = l
  | [] => rfl
  | c :: l => by rw [List.map_cons, List.flatten_cons, flat_one l]; rfl
theorem strsOf_one (l : List Nat) : strsOf (l.map fun c => D.str (Sx [c])) = some ((l.map fun c => [c]).map Sx) := by
  rw [← strsOf_S, List.map_map]; rfl
theorem lay_all : ∀ {xs : List PyData}, (∀ x ∈ xs, PyData.canLay0 x = true) → PyData.canLayAll0 xs = true
  | [], _ => by simp [PyData.canLayAll0]
  | x :: L, h => by
    rw [PyData.canLayAll0, h x List.mem_cons_self, lay_all fun y hy => h y (List.mem_cons_of_mem _ hy)]; rfl
theorem depth_all {k : Nat} : ∀ {xs : List PyData}, (∀ x ∈ xs, PyData.depth x ≤ k) → PyData.depthAll xs ≤ k
  | [], _ => by simp [PyData.depthAll]
  | x :: L, h => by
    rw [PyData.depthAll]
    have h1 := h x List.mem_cons_self
    have h2 := depth_all (k := k) (xs := L) fun y hy => h y (List.mem_cons_of_mem _ hy)
    omega
/-- plain data of a bounded depth -/
def Pl (k : Nat) (p : PyData) : Prop := PyData.canLay0 p = true ∧ PyData.depth p ≤ k
theorem pl_str {x : Str} (h : PyData.strOk x = true) (k : Nat) : Pl k (.str x) := ⟨by rw [PyData.canLay0]; exact h, by simp [PyData.depth]⟩
theorem pl_S {l : List Nat} (h : ∀ c ∈ l, c < 128) (k : Nat) : Pl k (.str (Sx l)) := pl_str (ok_S h) k
theorem pl_int (i : Int) (k : Nat) : Pl k (.int i) := ⟨by simp [PyData.canLay0], by simp [PyData.depth]⟩
theorem pl_bl (i : Bool) (k : Nat) : Pl k (.bool i) := ⟨by simp [PyData.canLay0], by simp [PyData.depth]⟩
theorem pl_non (k : Nat) : Pl k .none := ⟨by simp [PyData.canLay0], by simp [PyData.depth]⟩
theorem pl_lst {k : Nat} {xs : List PyData} (h : ∀ x ∈ xs, Pl k x) : Pl (k + 1) (.list xs) := ⟨by rw [PyData.canLay0]; exact lay_all fun x hx => (h x hx).1, by
  rw [PyData.depth]
  have := depth_all (k := k) (xs := xs) fun x hx => (h x hx).2
  omega⟩
theorem pl_tup {k : Nat} {xs : List PyData} (h : ∀ x ∈ xs, Pl k x) : Pl (k + 1) (.tuple xs) := ⟨by rw [PyData.canLay0]; exact lay_all fun x hx => (h x hx).1, by
  rw [PyData.depth]
  have := depth_all (k := k) (xs := xs) fun x hx => (h x hx).2
  omega⟩
theorem pl_shaped {k : Nat} {p : PyData} (h : Pl k p) (hk : k ≤ 64) : SeqAt.shaped p = true := by
  unfold SeqAt.shaped
  rw [h.1, Bool.true_and]
  exact decide_eq_true (by have := h.2; omega)
theorem eqv_same {p : PyData} (hs : SeqAt.shaped p = true) : PyData.eqv p p = true := SeqAt.eqv_refl p (SeqAt.canLay_of_shaped hs)
theorem ty_last (st : Sto) (xs : List D) : tyN (st ++ [.lst xs]) (.ref st.length) = some "list" := by
  show (match (st ++ [O.lst xs])[st.length]? with
    | some (.lst _) => some "list"
    | some (.fls _) => some "list"
    | some (.dK _) => some "dict"
    | some (.dT _) => some "dict"
    | _ => none) = _
  rw [at_last]
theorem mapM_cons2 {α β : Type} {f : α → Option β} {a : α} {b : β} {as : List α} {bs : List β} (h1 : f a = some b) (h2 : as.mapM f = some bs) : (a :: as).mapM f = some (b :: bs) := by
  rw [List.mapM_cons, h1, h2]; rfl
end Q3

set_option Elab.async false
set_option linter.all false
set_option maxRecDepth 100000
set_option maxHeartbeats 2000000
set_option pp.maxSteps 1500
/-! Q3q: the tape of draws, as several laws have it. -/
namespace Q3
open PySem
open L2 (atI cutS)
local macro_rules | `(tactic| walk_at "w") => `(tactic| conv => whnf)
/-- slots: 0 script 1 number -/
def sTape : Ss := (.cons
 (.asg (.nm 1) (.int 0)) (.cons
 (.iff (.and (.val (.cmp .gt (.bf .len (.cons (.var 0) .nil)) (.int 0))) (.val (.cmp .ge (.ix (.var 0) (.int 0)) (.bin .pow (.int 10) (.int 18))))) (.cons
  (.asg (.nm 1) (.ix (.var 0) (.int 0))) .nil) .nil) (.cons
 (.ret (.lst (.cons (.var 1) (.cons (.bin .add (.sl (.var 0) .no (.int 63)) (.lst (.cons (.int 7) .nil))) (.cons (.int 0) .nil))))) .nil)))
/-- slots: 0 tape 1 many 2 found 3 k 4 cell 5 stirred -/
def sTDraw : Ss := (.cons
 (.iff (.val (.cmp .gt (.ix (.var 0) (.int 0)) (.int 0))) (.cons
  (.asg (.nm 2) (.bin .mod (.ix (.var 0) (.int 0)) (.var 1))) (.cons
  (.six (.var 0) (.int 0) (.bin .fdiv (.ix (.var 0) (.int 0)) (.var 1))) (.cons
  (.ret (.var 2)) .nil))) .nil) (.cons
 (.asg (.nm 3) (.ix (.var 0) (.int 2))) (.cons
 (.six (.var 0) (.int 2) (.bin .add (.var 3) (.int 1))) (.cons
 (.asg (.nm 4) (.bin .mod (.ix (.ix (.var 0) (.int 1)) (.bin .mod (.var 3) (.bf .len (.cons (.ix (.var 0) (.int 1)) .nil)))) (.int 2147483629))) (.cons
 (.asg (.nm 5) (.bin .mod (.bin .mul (.bin .add (.var 4) (.int 1)) (.bin .add (.bin .add (.bin .mul (.bin .mul (.int 31) (.var 3)) (.var 3)) (.bin .mul (.int 7919) (.var 3))) (.int 1))) (.int 2147483647))) (.cons
 (.ret (.bin .mod (.bin .mod (.bin .mul (.bin .mod (.bin .mul (.bin .add (.var 5) (.var 3)) (.int 48271)) (.int 2147483629)) (.int 69621)) (.int 2147483587)) (.var 1))) .nil))))))
/-- the store with the tape in it: its number and its count -/
def tapeS (ns : List Int) (num : Int) (k : Nat) : Sto := [.fls (ns.map D.int), .lst (cutD (ns.map D.int) none (some 63)), .lst [.int 7], .lst (cutD (ns.map D.int) none (some 63) ++ [.int 7]), .lst [.int num, .ref 3, .int (k : Int)]]
theorem tapeS_len {ns : List Int} {num : Int} {k : Nat} : (tapeS ns num k).length = 5 := rfl
theorem cutD_len (xs : List D) (lo hi : Option Int) : (cutD xs lo hi).length ≤ xs.length := by
  unfold cutD
  rw [List.length_take, List.length_drop]
  omega
theorem cut_ints (ns : List Int) (lo hi : Option Int) : ∃ ms : List Int, cutD (ns.map D.int) lo hi = ms.map D.int := by
  unfold cutD
  exact ⟨_, by rw [← List.map_drop, ← List.map_take]⟩
theorem tape_ok {p : Pr} {f n : Nat} (hp : p.P[f]? = some ⟨2, 1, sTape⟩) {ns : List Int} (hns : ns.length ≤ 63) {Q : KD} {X : KX}
    (hQ : ∀ num, Q (.ref 4) (tapeS ns num 0)) : callN p (n + 1) f [.ref 0] [.fls (ns.map D.int)] Q X := by
  refine callN_run hp rfl ?_
  have fin : ∀ num : Int, wSs (drop 2 sTape) (p.cl n) { nx := fun _ st' => Q .non st', rt := Q } (fun c fs _ st' => X c fs st') [some (.ref 0), some (.int num)] [.fls (ns.map D.int)] := by
    intro num
    walk_at "w"
    refine ⟨?_, ?_⟩
    · show (cutD (ns.map D.int) none (some 63)).length + 1 ≤ 16777216
      have := cutD_len (ns.map D.int) none (some 63)
      rw [List.length_map] at this
      omega
    exact hQ num
  walk_at "w"
  rw [List.length_map]
  split
  · rename_i e
    have hl : 0 < ns.length := by have := of_decide_eq_true e; omega
    walk_at "w"
    have hat : atI (ns.map D.int) 0 = some (.int ns[0]) := by
      have h := atI_S (xs := ns.map D.int) (j := 0) (by rw [List.length_map]; exact hl)
      rw [show (0 : Int) = ((0 : Nat) : Int) from rfl, h]; simp
    rw [hat]
    walk_at "w"
    split
    · walk_at "w"
      rw [hat]
      exact fin _
    · exact fin 0
  · exact fin 0
/-- a draw of the tape: any number below many; the tape moves on by one at most -/
theorem tdraw2_ok {p : Pr} {f n : Nat} (hp : p.P[f]? = some ⟨6, 2, sTDraw⟩) {ns : List Int} (hns : ns.length ≤ 63) {num : Int} {k : Nat} (hk : k ≤ 1000000) {many : Int} (hm : 0 < many) (hdv : dvOk many = true) {e : Sto} {Q : KD} {X : KX}
    (hQ : ∀ (v num' : Int) (k' : Nat), 0 ≤ v → v < many → k' ≤ k + 1 → Q (.int v) (tapeS ns num' k' ++ e)) : callN p (n + 1) f [.ref 4, .int many] (tapeS ns num k ++ e) Q X := by
  refine callN_run hp rfl ?_
  have fin : ∀ (x num' : Int) (k' : Nat), k' ≤ k + 1 → Q (.int (x % many)) (tapeS ns num' k' ++ e) := fun x num' k' h => hQ _ _ _ (Int.emod_nonneg _ (by omega)) (Int.emod_lt_of_pos _ hm) h
  obtain ⟨ms, hms⟩ := cut_ints ns none (some 63)
  walk_at "w"
  split
  · walk_at "w"
    rw [decide_eq_true hm]
    walk_at "w"
    rw [hdv]
    exact fin num (num / many) k (by omega)
  · walk_at "w"
    have hm2 : (cutD (ns.map D.int) none (some 63) ++ [D.int 7]).length = ms.length + 1 := by rw [hms]; simp
    have hm3 : (cutD (ns.map D.int) none (some 63) ++ [D.int 7]) = (ms ++ [7]).map D.int := by rw [hms]; simp
    rw [decide_eq_true (show (0 : Int) < ((cutD (ns.map D.int) none (some 63) ++ [D.int 7]).length : Int) by rw [hm2]; omega)]
    walk_at "w"
    have hj : ∃ j : Nat, (k : Int) % (((cutD (ns.map D.int) none (some 63) ++ [D.int 7]).length : Nat) : Int) = (j : Int) ∧ j < (ms ++ [7]).length := by
      rw [hm2]
      have h1 := Int.emod_nonneg (k : Int) (b := ((ms.length + 1 : Nat) : Int)) (by omega)
      have h2 := Int.emod_lt_of_pos (k : Int) (b := ((ms.length + 1 : Nat) : Int)) (by omega)
      refine ⟨((k : Int) % ((ms.length + 1 : Nat) : Int)).toNat, by omega, ?_⟩
      rw [List.length_append, List.length_singleton]
      omega
    obtain ⟨j, hj1, hj2⟩ := hj
    rw [hj1]
    have hat : atI (cutD (ns.map D.int) none (some 63) ++ [D.int 7]) (j : Int) = some (.int (ms ++ [7])[j]) := by
      have h := atI_S (xs := (ms ++ [7]).map D.int) (j := j) (by rw [List.length_map]; exact hj2)
      rw [hm3, h, List.getElem_map]
    walk_at "w"
    rw [hat]
    generalize (ms ++ [7])[j] = x
    have hx0 := Int.emod_nonneg x (b := 2147483629) (by decide)
    have hx1 := Int.emod_lt_of_pos x (b := 2147483629) (by decide)
    generalize x % 2147483629 = y at hx0 hx1 ⊢
    refine ⟨.inl (.inl (by decide)), ?_⟩
    walk_at "w"
    refine ⟨.inl (.inr (by omega)), ?_⟩
    walk_at "w"
    refine ⟨.inl (.inl (by decide)), ?_⟩
    walk_at "w"
    refine ⟨.inl (.inl (by omega)), ?_⟩
    walk_at "w"
    refine ⟨.inl (.inr (by decide)), ?_⟩
    walk_at "w"
    refine ⟨.inl (.inr (by decide)), ?_⟩
    walk_at "w"
    rw [decide_eq_true hm]
    exact fin _ num (k + 1) (Nat.le_refl _)
theorem tdraw_ok {p : Pr} {f n : Nat} (hp : p.P[f]? = some ⟨6, 2, sTDraw⟩) {ns : List Int} (hns : ns.length ≤ 63) {num : Int} {k : Nat} (hk : k ≤ 1000000) {many : Int} (hm : 0 < many ∧ many ≤ 1000000) {e : Sto} {Q : KD} {X : KX}
    (hQ : ∀ (v num' : Int) (k' : Nat), 0 ≤ v → v < many → k' ≤ k + 1 → Q (.int v) (tapeS ns num' k' ++ e)) : callN p (n + 1) f [.ref 4, .int many] (tapeS ns num k ++ e) Q X :=
  tdraw2_ok hp hns hk hm.1 (dvOk_mk hm.1 (by omega)) hQ
end Q3

set_option Elab.async false
set_option linter.all false
set_option maxRecDepth 100000
set_option maxHeartbeats 2000000
/-! Q3r: slices of lists, the middle of a store. -/
namespace Q3
open PySem
open L2 (cutS atI)
theorem cutD_to (l : List D) (k : Nat) : cutD l none (some (k : Int)) = l.take k := by
  unfold cutD
  rw [HT.sIx_none, HT.sIx_nat, List.drop_zero, Nat.sub_zero]
  by_cases h : k ≤ l.length
  · rw [Nat.min_eq_left h]
  · rw [Nat.min_eq_right (by omega), List.take_length, List.take_of_length_le (by omega)]
theorem cutD_from (l : List D) (k : Nat) : cutD l (some (k : Int)) none = l.drop k := by
  unfold cutD
  rw [HT.sIx_none, HT.sIx_nat]
  by_cases h : k ≤ l.length
  · rw [Nat.min_eq_left h, List.take_of_length_le (by rw [List.length_drop]; exact Nat.le_refl _)]
  · rw [Nat.min_eq_right (by omega), List.drop_length, List.drop_eq_nil_of_le (by omega), List.take_nil]
theorem cutD_mid (l : List D) (i j : Nat) (h : j ≤ l.length) : cutD l (some (i : Int)) (some (j : Int)) = (l.drop i).take (j - i) := by
  unfold cutD
  rw [HT.sIx_nat, HT.sIx_nat, Nat.min_eq_left h]
  by_cases hi : i ≤ l.length
  · rw [Nat.min_eq_left hi]
  · rw [Nat.min_eq_right (by omega), List.drop_length, List.drop_eq_nil_of_le (by omega), List.take_nil, List.take_nil]
theorem at_mid {A e g : Sto} {o : O} {a : Nat} (h : a = A.length + e.length) : (A ++ (e ++ [o] ++ g))[a]? = some o := by
  rw [← List.append_assoc, ← List.append_assoc, List.getElem?_append_left (by simp; omega), h, ← List.length_append]
  exact at_last _ _
theorem set_mid {A e g : Sto} {o o' : O} {a : Nat} (h : a = A.length + e.length) : (A ++ (e ++ [o] ++ g)).set a o' = A ++ (e ++ [o'] ++ g) := by
  rw [← List.append_assoc, ← List.append_assoc, List.set_append_left _ _ (by simp; omega), h, ← List.length_append, set_last]
  simp only [List.append_assoc]
theorem lst_mid {A e g : Sto} {xs : List D} {a : Nat} (h : a = A.length + e.length) : lstAt (A ++ (e ++ [.lst xs] ++ g)) a = some xs := by
  unfold lstAt
  rw [at_mid h]
theorem at_end {A e : Sto} {o : O} {a : Nat} (h : a = A.length + e.length) : (A ++ (e ++ [o]))[a]? = some o := by
  have := at_mid (g := []) (o := o) h
  rwa [List.append_nil] at this
theorem lst_end {A e : Sto} {xs : List D} {a : Nat} (h : a = A.length + e.length) : lstAt (A ++ (e ++ [.lst xs])) a = some xs := by
  unfold lstAt
  rw [at_end h]
theorem seq_end {A e : Sto} {xs : List D} {a : Nat} (h : a = A.length + e.length) : seqOf (A ++ (e ++ [.lst xs])) (.ref a) = some xs := lst_end h
theorem seq_mid {A e g : Sto} {xs : List D} {a : Nat} (h : a = A.length + e.length) : seqOf (A ++ (e ++ [.lst xs] ++ g)) (.ref a) = some xs := lst_mid h
end Q3

set_option Elab.async false
set_option linter.all false
set_option maxRecDepth 100000
/-! k73: tables, printed by prt.py -/
namespace Lk73
open PySem Q3
/-- slots: 0 form 1 thing -/
def s_is_thing_of : Ss := (.cons
 (.iff (.val (.cmp .eq (.var 0) (.str "name"))) (.cons
  (.ret (.isi (.var 1) [.str])) .nil) .nil) (.cons
 (.iff (.or (.not (.val (.isi (.var 1) [.int]))) (.val (.isi (.var 1) [.bool]))) (.cons
  (.ret (.bl false)) .nil) .nil) (.cons
 (.ret (.or (.cmp .eq (.var 0) (.str "whole")) (.cmp .ge (.var 1) (.int 0)))) .nil)))
abbrev f_is_thing_of : Nat := 0
/-- slots: 0 thing 1 forms 2 form 3 one -/
def s_is_request : Ss := (.cons
 (.iff (.or (.not (.val (.isi (.var 0) [.tuple]))) (.or (.val (.cmp .lt (.bf .len (.cons (.var 0) .nil)) (.int 3))) (.not (.val (.isi (.ix (.var 0) (.int 0)) [.str]))))) (.cons
  (.ret (.bl false)) .nil) .nil) (.cons
 (.asg (.nm 1) (.kget 0 (.ix (.var 0) (.int 0)))) (.cons
 (.iff (.or (.val (.cmp .isn (.var 1) .non)) (.val (.cmp .ne (.bf .len (.cons (.var 0) .nil)) (.bin .add (.bf .len (.cons (.var 1) .nil)) (.int 3))))) (.cons
  (.ret (.bl false)) .nil) .nil) (.cons
 (.ret (.bf .all (.cons (.comp (.call 0 (.cons (.var 2) (.cons (.var 3) .nil))) (.tp [2, 3]) (.zip (.bin .add (.tup (.cons (.str "count") (.cons (.str "count") .nil))) (.var 1)) (.sl (.var 0) (.int 1) .no)) .yes) .nil))) .nil))))
abbrev f_is_request : Nat := 1
/-- slots: 0 l_script 1 l_number_here -/
def s_l_tape : Ss := (.cons
 (.asg (.nm 1) (.int 0)) (.cons
 (.iff (.and (.val (.cmp .gt (.bf .len (.cons (.var 0) .nil)) (.int 0))) (.val (.cmp .ge (.ix (.var 0) (.int 0)) (.bin .pow (.int 10) (.int 18))))) (.cons
  (.asg (.nm 1) (.ix (.var 0) (.int 0))) .nil) .nil) (.cons
 (.ret (.lst (.cons (.var 1) (.cons (.bin .add (.sl (.var 0) .no (.int 63)) (.lst (.cons (.int 7) .nil))) (.cons (.int 0) .nil))))) .nil)))
abbrev f_l_tape : Nat := 2
/-- slots: 0 l_tape_here 1 l_many 2 l_found 3 l_k 4 l_cell 5 l_stirred -/
def s_l_draw : Ss := (.cons
 (.iff (.val (.cmp .gt (.ix (.var 0) (.int 0)) (.int 0))) (.cons
  (.asg (.nm 2) (.bin .mod (.ix (.var 0) (.int 0)) (.var 1))) (.cons
  (.six (.var 0) (.int 0) (.bin .fdiv (.ix (.var 0) (.int 0)) (.var 1))) (.cons
  (.ret (.var 2)) .nil))) .nil) (.cons
 (.asg (.nm 3) (.ix (.var 0) (.int 2))) (.cons
 (.six (.var 0) (.int 2) (.bin .add (.var 3) (.int 1))) (.cons
 (.asg (.nm 4) (.bin .mod (.ix (.ix (.var 0) (.int 1)) (.bin .mod (.var 3) (.bf .len (.cons (.ix (.var 0) (.int 1)) .nil)))) (.int 2147483629))) (.cons
 (.asg (.nm 5) (.bin .mod (.bin .mul (.bin .add (.var 4) (.int 1)) (.bin .add (.bin .add (.bin .mul (.bin .mul (.int 31) (.var 3)) (.var 3)) (.bin .mul (.int 7919) (.var 3))) (.int 1))) (.int 2147483647))) (.cons
 (.ret (.bin .mod (.bin .mod (.bin .mul (.bin .mod (.bin .mul (.bin .add (.var 5) (.var 3)) (.int 48271)) (.int 2147483629)) (.int 69621)) (.int 2147483587)) (.var 1))) .nil))))))
abbrev f_l_draw : Nat := 3
/-- slots: 0 l_thing 1 l_many 2 l_more 3 l_counts 4 l_one -/
def s_l_is_request : Ss := (.cons
 (.iff (.or (.not (.val (.isi (.var 0) [.tuple]))) (.or (.val (.cmp .lt (.bf .len (.cons (.var 0) .nil)) (.int 3))) (.not (.val (.isi (.ix (.var 0) (.int 0)) [.str]))))) (.cons
  (.ret (.bl false)) .nil) .nil) (.cons
 (.asg (.nm 1) (.dct [.inr "rename", .inr "move", .inr "put", .inr "take", .inr "field", .inr "draw"] (.cons (.int 4) (.cons (.int 4) (.cons (.int 6) (.cons (.int 3) (.cons (.int 4) (.cons (.int 4) .nil)))))))) (.cons
 (.asg (.nm 2) (.dct [.inr "inplace", .inr "flip", .inr "part", .inr "name", .inr "spread"] (.cons (.int 3) (.cons (.int 3) (.cons (.int 4) (.cons (.int 4) (.cons (.int 3) .nil))))))) (.cons
 (.iff (.val (.cmp .ne (.bf .len (.cons (.var 0) .nil)) (.mt .get (.var 1) (.cons (.ix (.var 0) (.int 0)) (.cons (.mt .get (.var 2) (.cons (.ix (.var 0) (.int 0)) (.cons (.int 0) .nil))) .nil))))) (.cons
  (.ret (.bl false)) .nil) .nil) (.cons
 (.asg (.nm 3) (.lst (.cons (.ix (.var 0) (.int 1)) (.cons (.ix (.var 0) (.int 2)) .nil)))) (.cons
 (.iff (.val (.cmp .isin (.ix (.var 0) (.int 0)) (.tup (.cons (.str "move") (.cons (.str "put") (.cons (.str "field") (.cons (.str "part") .nil))))))) (.cons
  (.ex (.mt .append (.var 3) (.cons (.ix (.var 0) (.int 3)) .nil))) .nil) .nil) (.cons
 (.for (.nm 4) (.seq (.var 3)) (.cons
  (.iff (.or (.not (.val (.isi (.var 4) [.int]))) (.or (.val (.isi (.var 4) [.bool])) (.val (.cmp .lt (.var 4) (.int 0))))) (.cons
   (.ret (.bl false)) .nil) .nil) .nil)) (.cons
 (.iff (.val (.cmp .isin (.ix (.var 0) (.int 0)) (.tup (.cons (.str "rename") (.cons (.str "draw") (.cons (.str "name") .nil)))))) (.cons
  (.ret (.isi (.ix (.var 0) (.int 3)) [.str])) .nil) .nil) (.cons
 (.iff (.val (.cmp .ne (.ix (.var 0) (.int 0)) (.str "put"))) (.cons
  (.ret (.bl true)) .nil) .nil) (.cons
 (.ret (.and (.isi (.ix (.var 0) (.int 4)) [.str]) (.and (.isi (.ix (.var 0) (.int 5)) [.int]) (.not (.isi (.ix (.var 0) (.int 5)) [.bool]))))) .nil))))))))))
abbrev f_l_is_request : Nat := 4
/-- slots: 0 l_tape_here -/
def s_l_number : Ss := (.cons
 (.iff (.val (.cmp .eq (.call 3 (.cons (.var 0) (.cons (.int 6) .nil))) (.int 5))) (.cons
  (.ret (.call 3 (.cons (.var 0) (.cons (.bin .pow (.int 10) (.int 40)) .nil)))) .nil) .nil) (.cons
 (.ret (.call 3 (.cons (.var 0) (.cons (.int 12) .nil)))) .nil))
abbrev f_l_number : Nat := 5
/-- slots: 0 l_tape_here 1 l_kinds 2 l_kind 3 l_head 4 l_name 5 l_number_here -/
def s_l_made : Ss := (.cons
 (.asg (.nm 1) (.lst (.cons (.str "rename") (.cons (.str "move") (.cons (.str "put") (.cons (.str "take") (.cons (.str "field") (.cons (.str "draw") (.cons (.str "inplace") (.cons (.str "flip") (.cons (.str "part") (.cons (.str "name") (.cons (.str "spread") .nil))))))))))))) (.cons
 (.asg (.nm 2) (.ix (.var 1) (.call 3 (.cons (.var 0) (.cons (.int 11) .nil))))) (.cons
 (.asg (.nm 3) (.tup (.cons (.var 2) (.cons (.call 5 (.cons (.var 0) .nil)) (.cons (.call 5 (.cons (.var 0) .nil)) .nil))))) (.cons
 (.asg (.nm 4) (.ix (.lst (.cons (.str "ab") (.cons (.str "") (.cons (.str "let") (.cons (.str "a b") (.cons (.str "Abc9") .nil)))))) (.call 3 (.cons (.var 0) (.cons (.int 5) .nil))))) (.cons
 (.iff (.val (.cmp .isin (.var 2) (.tup (.cons (.str "rename") (.cons (.str "draw") (.cons (.str "name") .nil)))))) (.cons
  (.ret (.bin .add (.var 3) (.tup (.cons (.var 4) .nil)))) .nil) .nil) (.cons
 (.iff (.val (.cmp .isin (.var 2) (.tup (.cons (.str "move") (.cons (.str "field") (.cons (.str "part") .nil)))))) (.cons
  (.ret (.bin .add (.var 3) (.tup (.cons (.call 5 (.cons (.var 0) .nil)) .nil)))) .nil) .nil) (.cons
 (.iff (.val (.cmp .eq (.var 2) (.str "put"))) (.cons
  (.asg (.nm 5) (.bin .mul (.call 5 (.cons (.var 0) .nil)) (.bin .sub (.int 1) (.bin .mul (.int 2) (.call 3 (.cons (.var 0) (.cons (.int 2) .nil))))))) (.cons
  (.ret (.bin .add (.var 3) (.tup (.cons (.call 5 (.cons (.var 0) .nil)) (.cons (.var 4) (.cons (.var 5) .nil)))))) .nil)) .nil) (.cons
 (.ret (.var 3)) .nil))))))))
abbrev f_l_made : Nat := 6
/-- slots: 0 l_tape_here 1 l_thing 2 l_odd 3 l_one 4 l_way 5 l_at -/
def s_l_bent : Ss := (.cons
 (.asg (.nm 2) (.lst (.cons (.bl true) (.cons (.bl false) (.cons (.neg (.int 1)) (.cons .non (.cons (.str "") (.cons (.str "1") (.cons (.str "name") (.cons (.str "put") (.cons (.str "take") (.cons (.tup .nil) (.cons (.lst .nil) (.cons .dc0 .nil)))))))))))))) (.cons
 (.asg (.nm 2) (.bin .add (.var 2) (.lst (.cons (.int 0) (.cons (.int 5) (.cons (.neg (.bin .pow (.int 10) (.int 20))) (.cons (.tup (.cons (.str "rename") .nil)) (.cons (.tup (.cons (.int 1) .nil)) (.cons (.str "Flip") .nil))))))))) (.cons
 (.asg (.nm 3) (.ix (.var 2) (.call 3 (.cons (.var 0) (.cons (.bf .len (.cons (.var 2) .nil)) .nil))))) (.cons
 (.asg (.nm 4) (.call 3 (.cons (.var 0) (.cons (.int 6) .nil)))) (.cons
 (.iff (.or (.val (.cmp .eq (.var 4) (.int 0))) (.val (.cmp .eq (.var 1) (.tup .nil)))) (.cons
  (.ret (.bin .add (.var 1) (.tup (.cons (.var 3) .nil)))) .nil) .nil) (.cons
 (.asg (.nm 5) (.call 3 (.cons (.var 0) (.cons (.bf .len (.cons (.var 1) .nil)) .nil)))) (.cons
 (.iff (.val (.cmp .eq (.var 4) (.int 1))) (.cons
  (.ret (.bin .add (.sl (.var 1) .no (.var 5)) (.sl (.var 1) (.bin .add (.var 5) (.int 1)) .no))) .nil) .nil) (.cons
 (.ret (.bin .add (.bin .add (.sl (.var 1) .no (.var 5)) (.tup (.cons (.var 3) .nil))) (.sl (.var 1) (.bin .add (.var 5) (.int 1)) .no))) .nil))))))))
abbrev f_l_bent : Nat := 7
/-- slots: 0 l_script 1 l_tape_here 2 l_k 3 l_made_here 4 l_bent_here 5 l_some 6 l_one 7 l_found -/
def s_law : Ss := (.cons
 (.asg (.nm 1) (.call 2 (.cons (.var 0) .nil))) (.cons
 (.for (.nm 2) (.rng1 (.int 5)) (.cons
  (.asg (.nm 3) (.call 6 (.cons (.var 1) .nil))) (.cons
  (.asg (.nm 4) (.call 7 (.cons (.var 1) (.cons (.var 3) .nil)))) (.cons
  (.asg (.nm 5) (.lst (.cons (.var 3) (.cons (.var 4) (.cons (.call 7 (.cons (.var 1) (.cons (.var 4) .nil))) (.cons (.bf .list (.cons (.var 3) .nil)) (.cons (.ix (.var 3) (.int 0)) (.cons (.tup (.cons (.var 3) .nil)) (.cons (.sl (.var 3) .no (.int 2)) .nil))))))))) (.cons
  (.for (.nm 6) (.seq (.bin .add (.var 5) (.lst (.cons (.tup .nil) (.cons .non .nil))))) (.cons
   (.asg (.nm 7) (.call 1 (.cons (.var 6) .nil))) (.cons
   (.iff (.or (.not (.val (.isi (.var 7) [.bool]))) (.val (.cmp .ne (.var 7) (.call 4 (.cons (.var 6) .nil))))) (.cons
    (.ret (.bl false)) .nil) .nil) .nil))) .nil))))) (.cons
 (.ret (.bl true)) .nil)))
abbrev f_law : Nat := 8
abbrev kd_FORMS : List (Str × D) := [("rename", (.tup [(.str "name")])), ("move", (.tup [(.str "count")])), ("put", (.tup [(.str "count"), (.str "name"), (.str "whole")])), ("take", (.tup [])), ("field", (.tup [(.str "count")])), ("draw", (.tup [(.str "name")])), ("inplace", (.tup [])), ("flip", (.tup [])), ("part", (.tup [(.str "count")])), ("name", (.tup [(.str "name")])), ("spread", (.tup []))]
def pr : Pr := { G := [], KD := [kd_FORMS], P := [⟨2, 2, s_is_thing_of⟩, ⟨4, 1, s_is_request⟩, ⟨2, 1, s_l_tape⟩, ⟨6, 2, s_l_draw⟩, ⟨5, 1, s_l_is_request⟩, ⟨1, 1, s_l_number⟩, ⟨6, 1, s_l_made⟩, ⟨6, 2, s_l_bent⟩, ⟨8, 1, s_law⟩] }
end Lk73

set_option Elab.async false
set_option linter.all false
set_option maxRecDepth 100000
set_option maxHeartbeats 4000000
set_option pp.maxSteps 1500
namespace Nk73
open PySem Q3 Lk73
open L2 (cutS atI)
local macro_rules | `(tactic| walk_at "w") => `(tactic| conv => whnf)
def table : List (Str × List Str) := [("rename", ["name"]), ("move", ["count"]), ("put", ["count", "name", "whole"]), ("take", []), ("field", ["count"]), ("draw", ["name"]), ("inplace", []), ("flip", []), ("part", ["count"]), ("name", ["name"]), ("spread", [])]
def formsOf (k : Str) : Option (List Str) := table.lookup k
theorem lookup_map {α β : Type} (f : α → β) (k : Str) : ∀ l : List (Str × α), (l.map fun p => (p.1, f p.2)).lookup k = (l.lookup k).map f
  | [] => rfl
  | (a, b) :: l => by
    rw [List.map_cons, List.lookup_cons, List.lookup_cons]
    cases (k == a) with
    | true => rfl
    | false => exact lookup_map f k l
theorem forms_lk (k : Str) : ((fun es : List (Str × D) => List.lookup k es) kd_FORMS) = (formsOf k).map fun fs => D.tup (fs.map D.str) := by
  have h := lookup_map (fun fs : List Str => D.tup (fs.map D.str)) k table
  show kd_FORMS.lookup k = (table.lookup k).map fun fs => D.tup (fs.map D.str)
  rw [← h]
  rfl
theorem forms_at (k : Str) : kdAt [kd_FORMS] 0 (.str k) = some ((formsOf k).map fun fs => D.tup (fs.map D.str)) := by
  have h := lookup_map (fun fs : List Str => D.tup (fs.map D.str)) k table
  show some (kd_FORMS.lookup k) = some ((table.lookup k).map fun fs => D.tup (fs.map D.str))
  rw [← h]
  rfl
/-- which form a thing keeps -/
def okF (f : Str) (d : D) : Bool := if f = "name" then (match d with | .str _ => true | _ => false) else (match d with | .int i => decide (f = "whole") || decide (0 ≤ i) | _ => false)
def Thg (st : Sto) : D → Prop
  | .ref a => tyN st (.ref a) = some "list" ∨ tyN st (.ref a) = some "dict"
  | _ => True
abbrev forms3 : List Str := ["name", "count", "whole"]
theorem is_thing_ok (n : Nat) (f : Str) (hf : f ∈ forms3) (d : D) (st : Sto) (hd : Thg st d) (Q : KD) (X : KX) (hQ : Q (.bl (okF f d)) st) : callN pr (n+1) f_is_thing_of [.str f, d] st Q X := by
  refine callN_run rfl rfl ?_
  simp only [forms3, List.mem_cons, List.not_mem_nil, or_false] at hf
  rcases hf with rfl | rfl | rfl
  · cases d with
    | ref a =>
      rcases hd with hd | hd
      · walk_at "w"
        rw [hd]
        exact hQ
      · walk_at "w"
        rw [hd]
        exact hQ
    | _ => exact hQ
  · cases d with
    | ref a =>
      rcases hd with hd | hd
      · walk_at "w"
        rw [hd]
        exact hQ
      · walk_at "w"
        rw [hd]
        exact hQ
    | _ => exact hQ
  · cases d with
    | ref a =>
      rcases hd with hd | hd
      · walk_at "w"
        rw [hd]
        exact hQ
      · walk_at "w"
        rw [hd]
        exact hQ
    | _ => exact hQ
def isReqT (k : Str) (a b : D) (r : List D) : Bool := match formsOf k with
  | some fs => decide (r.length = fs.length) && (okF "count" a && (okF "count" b && (fs.zip r).all fun p => okF p.1 p.2))
  | none => false
def isReq : D → Bool
  | .tup (.str k :: a :: b :: r) => isReqT k a b r
  | _ => false
theorem isReqT_some {k : Str} {fs : List Str} (h : formsOf k = some fs) (a b : D) (r : List D) : isReqT k a b r = (decide (r.length = fs.length) && (okF "count" a && (okF "count" b && (fs.zip r).all fun p => okF p.1 p.2))) := by
  unfold isReqT; rw [h]
theorem isReqT_none {k : Str} (h : formsOf k = none) (a b : D) (r : List D) : isReqT k a b r = false := by
  unfold isReqT; rw [h]
theorem forms_cases {k : Str} {fs : List Str} (h : formsOf k = some fs) : (∀ f ∈ fs, f ∈ forms3) ∧ fs.length ≤ 3 := by
  have hm : ∀ (l : List (Str × List Str)), l.lookup k = some fs → fs ∈ l.map (·.2) := by
    intro l
    induction l with
    | nil => intro h; cases h
    | cons p l ih =>
      intro h
      obtain ⟨a, b⟩ := p
      rw [List.lookup_cons] at h
      cases e : (k == a) with
      | true => rw [e] at h; cases h; exact List.mem_cons_self
      | false => rw [e] at h; exact List.mem_cons_of_mem _ (ih h)
  have h1 := hm table h
  have h2 : ∀ gs ∈ table.map (·.2), (∀ f ∈ gs, f ∈ forms3) ∧ gs.length ≤ 3 := by decide +kernel
  exact h2 fs h1
theorem zip_maps : ∀ (fs : List Str) (r : List D), zipL (fs.map D.str) r = (fs.zip r).map fun p => D.tup [.str p.1, p.2]
  | [], r => by rw [List.map_nil, zipL_nl]; rfl
  | f :: fs, [] => by rw [zipL_ln]; rfl
  | f :: fs, d :: r => by
    rw [List.map_cons, zipL_cc, zip_maps fs r]; rfl
theorem blsOf_map (bs : List Bool) : blsOf (bs.map D.bl) = some bs := by
  induction bs with
  | nil => rfl
  | cons b bs ih =>
    show (blsOf (bs.map D.bl)).map (b :: ·) = _
    rw [ih]; rfl
theorem thg_app {st e : Sto} {d : D} (h : Thg st d) : Thg (st ++ e) d := by
  cases d with
  | ref a =>
    have key : ∀ s, tyN st (.ref a) = some s → tyN (st ++ e) (.ref a) = some s := by
      intro s hs
      have h1 : (match st[a]? with
        | some (.lst _) => some "list"
        | some (.fls _) => some "list"
        | some (.dK _) => some "dict"
        | some (.dT _) => some "dict"
        | _ => none) = some s := hs
      cases q : st[a]? with
      | none => rw [q] at h1; cases h1
      | some o =>
        rw [q] at h1
        show (match (st ++ e)[a]? with
          | some (.lst _) => some "list"
          | some (.fls _) => some "list"
          | some (.dK _) => some "dict"
          | some (.dT _) => some "dict"
          | _ => none) = some s
        rw [get_app e q]
        exact h1
    rcases h with h | h
    · exact .inl (key _ h)
    · exact .inr (key _ h)
  | _ => trivial
theorem is_request_ok (n : Nat) (x : D) (st : Sto) (hx : Thg st x) (hxs : ∀ xs, x = .tup xs → xs.length ≤ 100 ∧ ∀ d ∈ xs, Thg st d) (Q : KD) (X : KX) (hQ : ∀ e, Q (.bl (isReq x)) (st ++ e)) : callN pr (n+2) f_is_request [x] st Q X := by
  have h0 : Q (.bl (isReq x)) st := by have := hQ []; rwa [List.append_nil] at this
  refine callN_run rfl rfl ?_
  cases x with
  | ref a =>
    rcases hx with hx | hx
    · walk_at "w"
      rw [hx]
      exact h0
    · walk_at "w"
      rw [hx]
      exact h0
  | tup xs =>
    obtain ⟨hl, hth⟩ := hxs xs rfl
    match xs, hl, hth, hQ, h0 with
    | [], _, _, _, h0 => exact h0
    | [d], _, _, _, h0 =>
      have e : isReq (.tup [d]) = false := by cases d <;> rfl
      rw [e] at h0
      exact h0
    | [d, d'], _, _, _, h0 =>
      have e : isReq (.tup [d, d']) = false := by cases d <;> rfl
      rw [e] at h0
      exact h0
    | d0 :: a :: b :: r, hl, hth, hQ, h0 =>
      have a0 : atI (d0 :: a :: b :: r) 0 = some d0 := atI_S (j := 0) (by simp)
      walk_at "w"
      rw [a0]
      walk_at "w"
      cases d0 with
      | str k =>
        walk_at "w"
        rw [a0]
        walk_at "w"
        rw [forms_lk k]
        cases hf : formsOf k with
        | none =>
          have e : isReq (.tup (.str k :: a :: b :: r)) = false := isReqT_none hf a b r
          rw [e] at h0
          exact h0
        | some fs =>
          obtain ⟨hf1, hf2⟩ := forms_cases hf
          have e : isReq (.tup (.str k :: a :: b :: r)) = _ := isReqT_some hf a b r
          by_cases hr : r.length = fs.length
          · have hlen : decide ((((D.str k :: a :: b :: r).length : Nat) : Int) = (((fs.map D.str).length : Nat) : Int) + 3) = true := decide_eq_true (by simp; omega)
            have c1 : cutD (D.str k :: a :: b :: r) (some 1) none = a :: b :: r := cutD_from _ 1
            rw [e, decide_eq_true hr, Bool.true_and] at hQ
            walk_at "w"
            rw [hlen]
            walk_at "w"
            refine ⟨by rw [List.length_map]; show 2 + fs.length ≤ 16777216; omega, ?_⟩
            walk_at "w"
            rw [c1]
            have hz : zipL ([D.str (Str.ofString "count"), D.str (Str.ofString "count")] ++ fs.map D.str) (a :: b :: r) = ((Str.ofString "count", a) :: (Str.ofString "count", b) :: fs.zip r).map fun p => D.tup [.str p.1, p.2] := by
              show zipL (D.str (Str.ofString "count") :: D.str (Str.ofString "count") :: fs.map D.str) (a :: b :: r) = _
              rw [zipL_cc, zipL_cc, zip_maps fs r]; rfl
            have hall : ∀ p ∈ ((Str.ofString "count", a) :: (Str.ofString "count", b) :: fs.zip r), p.1 ∈ forms3 ∧ Thg st p.2 := by
              intro p hp
              simp only [List.mem_cons] at hp
              rcases hp with rfl | rfl | hp
              · exact ⟨(show Str.ofString "count" ∈ forms3 by decide), hth a (by simp)⟩
              · exact ⟨(show Str.ofString "count" ∈ forms3 by decide), hth b (by simp)⟩
              · obtain ⟨z1, z2⟩ := List.of_mem_zip hp
                exact ⟨hf1 _ z1, hth _ (by simp [z2])⟩
            rw [hz]
            refine loopC_map (fun p => some (.bl (okF p.1 p.2))) (fun acc => gOk_nil) _ [] (fun p hp acc K' hK hacc => ?_) ?_ ?_
            · obtain ⟨z1, z2⟩ := hall p hp
              walk_at "w"
              refine is_thing_ok n p.1 z1 p.2 _ (thg_app z2) _ _ ?_
              walk_at "w"
              rw [at_last]
              refine ⟨hacc, ?_⟩
              rw [set_last]
              exact hK hacc
            · have : (fs.zip r).length ≤ 3 := by rw [List.length_zip]; omega
              rw [List.length_cons, List.length_cons]
              show 0 + ((fs.zip r).length + 1 + 1) ≤ 16777216
              omega
            · rw [List.nil_append, show (((Str.ofString "count", a) :: (Str.ofString "count", b) :: fs.zip r).filterMap fun p : Str × D => some (D.bl (okF p.1 p.2))) = (((Str.ofString "count", a) :: (Str.ofString "count", b) :: fs.zip r).map fun p => okF p.1 p.2).map D.bl by simp]
              walk_at "w"
              rw [show inL blsOf _ (D.ref st.length) = some (((Str.ofString "count", a) :: (Str.ofString "count", b) :: fs.zip r).map fun p => okF p.1 p.2) from by
                show (lstAt (st ++ [O.lst _]) st.length).bind blsOf = _
                rw [lst_last]
                exact blsOf_map _]
              have := hQ [O.lst ((((Str.ofString "count", a) :: (Str.ofString "count", b) :: fs.zip r).map fun p => okF p.1 p.2).map D.bl)]
              have e2 : (((Str.ofString "count", a) :: (Str.ofString "count", b) :: fs.zip r).map fun p => okF p.1 p.2).all id = (okF (Str.ofString "count") a && (okF (Str.ofString "count") b && (fs.zip r).all fun p => okF p.1 p.2)) := by
                rw [List.map_cons, List.map_cons, List.all_cons, List.all_cons, List.all_map]; rfl
              rw [← e2] at this
              exact this
          · have hlen : decide ((((D.str k :: a :: b :: r).length : Nat) : Int) = (((fs.map D.str).length : Nat) : Int) + 3) = false := decide_eq_false (by simp; omega)
            rw [e, decide_eq_false hr, Bool.false_and] at h0
            walk_at "w"
            rw [hlen]
            exact h0
      | ref c =>
        have hc := hth (.ref c) (by simp)
        rcases hc with hc | hc
        · walk_at "w"
          rw [hc]
          exact h0
        · walk_at "w"
          rw [hc]
          exact h0
      | _ => exact h0
  | _ => exact h0
/-! the law's own word -/
theorem okc_int (v : Int) : okF (Str.ofString "count") (.int v) = decide (0 ≤ v) := by
  unfold okF
  rw [if_neg (by decide)]
  show (decide _ || decide (0 ≤ v)) = _
  rw [decide_eq_false (by decide)]
  rfl
theorem counts_ok (n : Nat) (Q : KD) (X : KX) (st : Sto) (i : Nat) (cs : List D) (hcs : lstAt st i = some cs) (hth : ∀ d ∈ cs, Thg st d) (x o1 o2 : Option D)
    (hF : cs.all (okF (Str.ofString "count")) = false → Q (.bl false) st)
    (hT : cs.all (okF (Str.ofString "count")) = true → ∀ o4, wSs (drop 7 s_l_is_request) (pr.cl n) { nx := fun _ st' => Q .non st', rt := Q } (fun c fs _ st' => X c fs st') [x, o1, o2, some (.ref i), o4] st) (o4 : Option D) :
    wSs (drop 6 s_l_is_request) (pr.cl n) { nx := fun _ st' => Q .non st', rt := Q } (fun c fs _ st' => X c fs st') [x, o1, o2, some (.ref i), o4] st := by
  walk_at "w"
  rw [hcs]
  walk_at "w"
  have hm : cs = cs.map (fun d => d) := (List.map_id' cs).symm
  rw [hm]
  refine loopF_scan (okF (Str.ofString "count")) (fun en => ∃ o4, en = [x, o1, o2, some (.ref i), o4]) (gOk_one (by rw [List.map_id']; exact hcs)) cs (fun d hd K' en hen hK => ?_) (fun hall en hen => ?_) _ ⟨o4, rfl⟩
  · obtain ⟨o4, rfl⟩ := hen
    have bad : okF (Str.ofString "count") d = false → Q (.bl false) st := fun h => hF (by
      rw [List.all_eq_false]
      exact ⟨d, hd, by rw [h]; decide⟩)
    have hdt := hth d hd
    cases d with
    | ref a =>
      rcases hdt with hdt | hdt
      · walk_at "w"
        rw [hdt]
        exact bad rfl
      · walk_at "w"
        rw [hdt]
        exact bad rfl
    | int v =>
      walk_at "w"
      by_cases hv : v < 0
      · rw [decide_eq_true hv]
        exact bad (by rw [okc_int]; exact decide_eq_false (by omega))
      · rw [decide_eq_false hv]
        exact hK (by rw [okc_int]; exact decide_eq_true (by omega)) _ ⟨_, rfl⟩
    | _ => exact bad rfl
  · obtain ⟨o4, rfl⟩ := hen
    exact hT (by rw [List.all_eq_true]; exact hall) o4
def names : List Str := table.map (·.1)
theorem forms_none {k : Str} (h : k ∉ names) : formsOf k = none := by
  cases e : formsOf k with
  | none => rfl
  | some fs =>
    exfalso
    have hm : ∀ (l : List (Str × List Str)), l.lookup k = some fs → k ∈ l.map (·.1) := by
      intro l
      induction l with
      | nil => intro h; cases h
      | cons p l ih =>
        intro h
        obtain ⟨a, b⟩ := p
        rw [List.lookup_cons] at h
        cases e : (k == a) with
        | true => exact List.mem_cons.mpr (.inl (eq_of_beq e))
        | false => rw [e] at h; exact List.mem_cons_of_mem _ (ih h)
    exact h (hm table e)
abbrev many6 : List ((Int ⊕ Str) × D) := [(.inr "rename", .int 4), (.inr "move", .int 4), (.inr "put", .int 6), (.inr "take", .int 3), (.inr "field", .int 4), (.inr "draw", .int 4)]
abbrev more5 : List ((Int ⊕ Str) × D) := [(.inr "inplace", .int 3), (.inr "flip", .int 3), (.inr "part", .int 4), (.inr "name", .int 4), (.inr "spread", .int 3)]
theorem dGet_none (k : Str) : ∀ (kvs : List ((Int ⊕ Str) × D)), (∀ kv ∈ kvs, kv.1 ≠ Sum.inr k) → dGet kvs (Sum.inr k) = none := by
  intro kvs h
  unfold dGet
  rw [List.find?_eq_none.mpr]
  · rfl
  · intro kv hkv
    simp [h kv hkv]
theorem many_eq : (List.foldl (fun acc kv => dPut acc kv.fst kv.snd) ([] : List ((Int ⊕ Str) × D)) ([Sum.inr (Str.ofString "rename"), Sum.inr (Str.ofString "move"), Sum.inr (Str.ofString "put"), Sum.inr (Str.ofString "take"), Sum.inr (Str.ofString "field"), Sum.inr (Str.ofString "draw")].zip [D.int 4, D.int 4, D.int 6, D.int 3, D.int 4, D.int 4])) = many6 := rfl
theorem more_eq : (List.foldl (fun acc kv => dPut acc kv.fst kv.snd) ([] : List ((Int ⊕ Str) × D)) ([Sum.inr (Str.ofString "inplace"), Sum.inr (Str.ofString "flip"), Sum.inr (Str.ofString "part"), Sum.inr (Str.ofString "name"), Sum.inr (Str.ofString "spread")].zip [D.int 3, D.int 3, D.int 4, D.int 4, D.int 3])) = more5 := rfl
theorem mtOk_dK {st : Sto} {a : Nat} {kvs : List ((Int ⊕ Str) × D)} (h : st[a]? = some (.dK kvs)) : mtOk .get st (.ref a) = true := by
  show (dicLen st (.ref a)).isSome = true
  show (match st[a]? with | some (.dK kvs) => some kvs.length | _ => none).isSome = true
  rw [h]; rfl
theorem dicGet_dK {st : Sto} {a : Nat} {kvs : List ((Int ⊕ Str) × D)} (h : st[a]? = some (.dK kvs)) (k : Str) : dicGet st (.ref a) (.str k) = some (dGet kvs (.inr k)) := by
  show (match st[a]? with | some (.dK kvs) => (keyOf (.str k)).map (dGet kvs) | _ => none) = _
  rw [h]; rfl
theorem lreq_ok (n : Nat) (x : D) (st : Sto) (hx : Thg st x) (hxs : ∀ xs, x = .tup xs → xs.length ≤ 100 ∧ ∀ d ∈ xs, Thg st d) (Q : KD) (X : KX) (hQ : ∀ e, Q (.bl (isReq x)) (st ++ e)) : callN pr (n+1) f_l_is_request [x] st Q X := by
  have h0 : Q (.bl (isReq x)) st := by have := hQ []; rwa [List.append_nil] at this
  refine callN_run rfl rfl ?_
  cases x with
  | ref a =>
    rcases hx with hx | hx
    · walk_at "w"
      rw [hx]
      exact h0
    · walk_at "w"
      rw [hx]
      exact h0
  | tup xs =>
    obtain ⟨hl, hth⟩ := hxs xs rfl
    match xs, hl, hth, hQ, h0 with
    | [], _, _, _, h0 => exact h0
    | [d], _, _, _, h0 =>
      have e : isReq (.tup [d]) = false := by cases d <;> rfl
      rw [e] at h0
      exact h0
    | [d, d'], _, _, _, h0 =>
      have e : isReq (.tup [d, d']) = false := by cases d <;> rfl
      rw [e] at h0
      exact h0
    | d0 :: a :: b :: r, hl, hth, hQ, h0 =>
      have a0 : atI (d0 :: a :: b :: r) 0 = some d0 := atI_S (j := 0) (by simp)
      walk_at "w"
      rw [a0]
      walk_at "w"
      cases d0 with
      | str k =>
        walk_at "w"
        rw [at_last]
        walk_at "w"
        rw [set_last]
        rw [at_last]
        walk_at "w"
        rw [set_last]
        rw [many_eq, more_eq]
        have g1 : (st ++ [O.dK many6] ++ [O.dK more5])[st.length]? = some (.dK many6) := get_app _ (at_last _ _)
        have g2 : (st ++ [O.dK many6] ++ [O.dK more5])[(st ++ [O.dK many6]).length]? = some (.dK more5) := at_last _ _
        obtain ⟨E2, hE2⟩ : ∃ E2, st ++ [O.dK many6] ++ [O.dK more5] = st ++ E2 := ⟨_, List.append_assoc _ _ _⟩
        rw [hE2] at g1 g2 ⊢
        generalize (st ++ [O.dK many6]).length = i2 at g2 ⊢
        walk_at "w"
        rw [mtOk_dK g1]
        walk_at "w"
        rw [a0]
        walk_at "w"
        rw [mtOk_dK g2]
        walk_at "w"
        rw [a0]
        walk_at "w"
        rw [dicGet_dK g2]
        walk_at "w"
        rw [dicGet_dK g1]
        walk_at "w"
        have fin2 : ∀ (v : Bool) (e : Sto), isReqT k a b r = v → Q (.bl v) (st ++ E2 ++ e) := fun v e h => by
          have h1 := hQ (E2 ++ e)
          rw [← List.append_assoc] at h1
          rw [← h]
          exact h1
        by_cases hk : k ∈ names
        · simp only [names, table, List.map_cons, List.map_nil, List.mem_cons, List.not_mem_nil, or_false] at hk
          rcases hk with rfl | rfl | rfl | rfl | rfl | rfl | rfl | rfl | rfl | rfl | rfl
          · by_cases hr : r.length = 1
            · match r, hr with
              | [c], _ =>
                walk_at "w"
                refine ⟨⟨rfl, rfl⟩, ?_⟩
                walk_at "w"
                refine counts_ok n Q X _ (st ++ E2).length [a, b] (lst_last _ _) (fun d hd => thg_app (thg_app (hth d (by
                  simp only [List.mem_cons, List.not_mem_nil, or_false] at hd ⊢
                  rcases hd with rfl | rfl
                  · exact .inr (.inl rfl)
                  · exact .inr (.inr (.inl rfl)))))) _ _ _ (fun h => ?_) (fun h o4 => ?_) _
                · exact fin2 _ _ (by rw [isReqT_some rfl]; simp only [List.all_cons, List.all_nil, Bool.and_true] at h; rw [← Bool.and_assoc (okF _ a), h]; rfl)
                · have hv : isReqT (Str.ofString "rename") a b [c] = okF (Str.ofString "name") c := by
                    rw [isReqT_some rfl]; simp only [List.all_cons, List.all_nil, Bool.and_true] at h; rw [← Bool.and_assoc (okF _ a), h]; exact Bool.and_true _
                  have fin3 := fin2 _ [O.lst [a, b]] hv
                  walk_at "w"
                  refine ⟨⟨rfl, rfl⟩, ?_⟩
                  have hc : Thg (st ++ E2 ++ [O.lst [a, b]]) c := thg_app (thg_app (hth c (by simp)))
                  cases c with
                  | ref q =>
                    rcases hc with hc | hc
                    · walk_at "w"
                      rw [hc]
                      exact fin3
                    · walk_at "w"
                      rw [hc]
                      exact fin3
                  | _ => exact fin3
            · have e : isReq (.tup (.str "rename" :: a :: b :: r)) = false := by
                show isReqT (Str.ofString "rename") a b r = false
                rw [isReqT_some (fs := (formsOf "rename").getD []) rfl, decide_eq_false (by show ¬ r.length = 1; exact hr)]; rfl
              have hlen : decide ((((D.str "rename" :: a :: b :: r).length : Nat) : Int) = 4) = false := decide_eq_false (by simp; omega)
              have h1 := hQ E2
              rw [e] at h1
              walk_at "w"
              rw [hlen]
              exact h1
          · by_cases hr : r.length = 1
            · match r, hr with
              | [c], _ =>
                walk_at "w"
                refine ⟨⟨rfl, rfl⟩, ?_⟩
                walk_at "w"
                rw [mt_last rfl]
                walk_at "w"
                rw [at_last]
                refine ⟨by show 2 < 16777216; decide, ?_⟩
                rw [set_last]
                refine counts_ok n Q X _ (st ++ E2).length [a, b, c] (lst_last _ _) (fun d hd => thg_app (thg_app (hth d (by
                  simp only [List.mem_cons, List.not_mem_nil, or_false] at hd ⊢
                  rcases hd with rfl | rfl | rfl
                  · exact .inr (.inl rfl)
                  · exact .inr (.inr (.inl rfl))
                  · exact .inr (.inr (.inr rfl)))))) _ _ _ (fun h => ?_) (fun h o4 => ?_) _
                · exact fin2 _ _ (by rw [isReqT_some rfl]; simpa using h)
                · walk_at "w"
                  refine ⟨⟨rfl, rfl⟩, ?_⟩
                  exact fin2 _ _ (by rw [isReqT_some rfl]; simpa using h)
            · have e : isReq (.tup (.str "move" :: a :: b :: r)) = false := by
                show isReqT (Str.ofString "move") a b r = false
                rw [isReqT_some (fs := (formsOf "move").getD []) rfl, decide_eq_false (by show ¬ r.length = 1; exact hr)]; rfl
              have hlen : decide ((((D.str "move" :: a :: b :: r).length : Nat) : Int) = 4) = false := decide_eq_false (by simp; omega)
              have h1 := hQ E2
              rw [e] at h1
              walk_at "w"
              rw [hlen]
              exact h1
          · by_cases hr : r.length = 3
            · match r, hr with
              | [c, d, e], _ =>
                walk_at "w"
                refine ⟨⟨rfl, rfl⟩, ?_⟩
                walk_at "w"
                rw [mt_last rfl]
                walk_at "w"
                rw [at_last]
                refine ⟨by show 2 < 16777216; decide, ?_⟩
                rw [set_last]
                refine counts_ok n Q X _ (st ++ E2).length [a, b, c] (lst_last _ _) (fun z hz => thg_app (thg_app (hth z (by
                  simp only [List.mem_cons, List.not_mem_nil, or_false] at hz ⊢
                  rcases hz with rfl | rfl | rfl
                  · exact .inr (.inl rfl)
                  · exact .inr (.inr (.inl rfl))
                  · exact .inr (.inr (.inr (.inl rfl))))))) _ _ _ (fun h => ?_) (fun h o4 => ?_) _
                · exact fin2 _ _ (by
                    rw [isReqT_some rfl]
                    simp only [List.all_cons, List.all_nil, Bool.and_true] at h
                    show (_ && (okF _ a && (okF _ b && (okF _ c && (okF _ d && (okF _ e && true)))))) = false
                    revert h
                    cases okF (Str.ofString "count") a <;> cases okF (Str.ofString "count") b <;> cases okF (Str.ofString "count") c <;> simp)
                · have hv : isReqT (Str.ofString "put") a b [c, d, e] = (okF (Str.ofString "name") d && okF (Str.ofString "whole") e) := by
                    rw [isReqT_some rfl]
                    simp only [List.all_cons, List.all_nil, Bool.and_true] at h
                    show (true && (okF (Str.ofString "count") a && (okF (Str.ofString "count") b && (okF (Str.ofString "count") c && (okF (Str.ofString "name") d && (okF (Str.ofString "whole") e && true)))))) = _
                    revert h
                    cases okF (Str.ofString "count") a <;> cases okF (Str.ofString "count") b <;> cases okF (Str.ofString "count") c <;> simp
                  have fin3 := fin2 _ [O.lst [a, b, c]] hv
                  walk_at "w"
                  refine ⟨⟨rfl, rfl⟩, ?_⟩
                  have hd : Thg (st ++ E2 ++ [O.lst [a, b, c]]) d := thg_app (thg_app (hth d (by simp)))
                  have he : Thg (st ++ E2 ++ [O.lst [a, b, c]]) e := thg_app (thg_app (hth e (by simp)))
                  cases d with
                  | ref q =>
                    rcases hd with hd | hd
                    · walk_at "w"
                      rw [hd]
                      exact fin3
                    · walk_at "w"
                      rw [hd]
                      exact fin3
                  | str q =>
                    cases e with
                    | ref q =>
                      rcases he with he | he
                      · walk_at "w"
                        rw [he]
                        exact fin3
                      · walk_at "w"
                        rw [he]
                        exact fin3
                    | _ => exact fin3
                  | _ => exact fin3
            · have e : isReq (.tup (.str "put" :: a :: b :: r)) = false := by
                show isReqT (Str.ofString "put") a b r = false
                rw [isReqT_some (fs := (formsOf "put").getD []) rfl, decide_eq_false (by show ¬ r.length = 3; exact hr)]; rfl
              have hlen : decide ((((D.str "put" :: a :: b :: r).length : Nat) : Int) = 6) = false := decide_eq_false (by simp; omega)
              have h1 := hQ E2
              rw [e] at h1
              walk_at "w"
              rw [hlen]
              exact h1
          · by_cases hr : r.length = 0
            · match r, hr with
              | [], _ =>
                walk_at "w"
                refine ⟨⟨rfl, rfl⟩, ?_⟩
                walk_at "w"
                refine counts_ok n Q X _ (st ++ E2).length [a, b] (lst_last _ _) (fun d hd => thg_app (thg_app (hth d (by
                  simp only [List.mem_cons, List.not_mem_nil, or_false] at hd ⊢
                  rcases hd with rfl | rfl
                  · exact .inr (.inl rfl)
                  · exact .inr (.inr rfl))))) _ _ _ (fun h => ?_) (fun h o4 => ?_) _
                · exact fin2 _ _ (by rw [isReqT_some rfl]; simpa using h)
                · walk_at "w"
                  refine ⟨⟨rfl, rfl⟩, ?_⟩
                  exact fin2 _ _ (by rw [isReqT_some rfl]; simpa using h)
            · have e : isReq (.tup (.str "take" :: a :: b :: r)) = false := by
                show isReqT (Str.ofString "take") a b r = false
                rw [isReqT_some (fs := (formsOf "take").getD []) rfl, decide_eq_false (by show ¬ r.length = 0; exact hr)]; rfl
              have hlen : decide ((((D.str "take" :: a :: b :: r).length : Nat) : Int) = 3) = false := decide_eq_false (by simp; omega)
              have h1 := hQ E2
              rw [e] at h1
              walk_at "w"
              rw [hlen]
              exact h1
          · by_cases hr : r.length = 1
            · match r, hr with
              | [c], _ =>
                walk_at "w"
                refine ⟨⟨rfl, rfl⟩, ?_⟩
                walk_at "w"
                rw [mt_last rfl]
                walk_at "w"
                rw [at_last]
                refine ⟨by show 2 < 16777216; decide, ?_⟩
                rw [set_last]
                refine counts_ok n Q X _ (st ++ E2).length [a, b, c] (lst_last _ _) (fun d hd => thg_app (thg_app (hth d (by
                  simp only [List.mem_cons, List.not_mem_nil, or_false] at hd ⊢
                  rcases hd with rfl | rfl | rfl
                  · exact .inr (.inl rfl)
                  · exact .inr (.inr (.inl rfl))
                  · exact .inr (.inr (.inr rfl)))))) _ _ _ (fun h => ?_) (fun h o4 => ?_) _
                · exact fin2 _ _ (by rw [isReqT_some rfl]; simpa using h)
                · walk_at "w"
                  refine ⟨⟨rfl, rfl⟩, ?_⟩
                  exact fin2 _ _ (by rw [isReqT_some rfl]; simpa using h)
            · have e : isReq (.tup (.str "field" :: a :: b :: r)) = false := by
                show isReqT (Str.ofString "field") a b r = false
                rw [isReqT_some (fs := (formsOf "field").getD []) rfl, decide_eq_false (by show ¬ r.length = 1; exact hr)]; rfl
              have hlen : decide ((((D.str "field" :: a :: b :: r).length : Nat) : Int) = 4) = false := decide_eq_false (by simp; omega)
              have h1 := hQ E2
              rw [e] at h1
              walk_at "w"
              rw [hlen]
              exact h1
          · by_cases hr : r.length = 1
            · match r, hr with
              | [c], _ =>
                walk_at "w"
                refine ⟨⟨rfl, rfl⟩, ?_⟩
                walk_at "w"
                refine counts_ok n Q X _ (st ++ E2).length [a, b] (lst_last _ _) (fun d hd => thg_app (thg_app (hth d (by
                  simp only [List.mem_cons, List.not_mem_nil, or_false] at hd ⊢
                  rcases hd with rfl | rfl
                  · exact .inr (.inl rfl)
                  · exact .inr (.inr (.inl rfl)))))) _ _ _ (fun h => ?_) (fun h o4 => ?_) _
                · exact fin2 _ _ (by rw [isReqT_some rfl]; simp only [List.all_cons, List.all_nil, Bool.and_true] at h; rw [← Bool.and_assoc (okF _ a), h]; rfl)
                · have hv : isReqT (Str.ofString "draw") a b [c] = okF (Str.ofString "name") c := by
                    rw [isReqT_some rfl]; simp only [List.all_cons, List.all_nil, Bool.and_true] at h; rw [← Bool.and_assoc (okF _ a), h]; exact Bool.and_true _
                  have fin3 := fin2 _ [O.lst [a, b]] hv
                  walk_at "w"
                  refine ⟨⟨rfl, rfl⟩, ?_⟩
                  have hc : Thg (st ++ E2 ++ [O.lst [a, b]]) c := thg_app (thg_app (hth c (by simp)))
                  cases c with
                  | ref q =>
                    rcases hc with hc | hc
                    · walk_at "w"
                      rw [hc]
                      exact fin3
                    · walk_at "w"
                      rw [hc]
                      exact fin3
                  | _ => exact fin3
            · have e : isReq (.tup (.str "draw" :: a :: b :: r)) = false := by
                show isReqT (Str.ofString "draw") a b r = false
                rw [isReqT_some (fs := (formsOf "draw").getD []) rfl, decide_eq_false (by show ¬ r.length = 1; exact hr)]; rfl
              have hlen : decide ((((D.str "draw" :: a :: b :: r).length : Nat) : Int) = 4) = false := decide_eq_false (by simp; omega)
              have h1 := hQ E2
              rw [e] at h1
              walk_at "w"
              rw [hlen]
              exact h1
          · by_cases hr : r.length = 0
            · match r, hr with
              | [], _ =>
                walk_at "w"
                refine ⟨⟨rfl, rfl⟩, ?_⟩
                walk_at "w"
                refine counts_ok n Q X _ (st ++ E2).length [a, b] (lst_last _ _) (fun d hd => thg_app (thg_app (hth d (by
                  simp only [List.mem_cons, List.not_mem_nil, or_false] at hd ⊢
                  rcases hd with rfl | rfl
                  · exact .inr (.inl rfl)
                  · exact .inr (.inr rfl))))) _ _ _ (fun h => ?_) (fun h o4 => ?_) _
                · exact fin2 _ _ (by rw [isReqT_some rfl]; simpa using h)
                · walk_at "w"
                  refine ⟨⟨rfl, rfl⟩, ?_⟩
                  exact fin2 _ _ (by rw [isReqT_some rfl]; simpa using h)
            · have e : isReq (.tup (.str "inplace" :: a :: b :: r)) = false := by
                show isReqT (Str.ofString "inplace") a b r = false
                rw [isReqT_some (fs := (formsOf "inplace").getD []) rfl, decide_eq_false (by show ¬ r.length = 0; exact hr)]; rfl
              have hlen : decide ((((D.str "inplace" :: a :: b :: r).length : Nat) : Int) = 3) = false := decide_eq_false (by simp; omega)
              have h1 := hQ E2
              rw [e] at h1
              walk_at "w"
              rw [hlen]
              exact h1
          · by_cases hr : r.length = 0
            · match r, hr with
              | [], _ =>
                walk_at "w"
                refine ⟨⟨rfl, rfl⟩, ?_⟩
                walk_at "w"
                refine counts_ok n Q X _ (st ++ E2).length [a, b] (lst_last _ _) (fun d hd => thg_app (thg_app (hth d (by
                  simp only [List.mem_cons, List.not_mem_nil, or_false] at hd ⊢
                  rcases hd with rfl | rfl
                  · exact .inr (.inl rfl)
                  · exact .inr (.inr rfl))))) _ _ _ (fun h => ?_) (fun h o4 => ?_) _
                · exact fin2 _ _ (by rw [isReqT_some rfl]; simpa using h)
                · walk_at "w"
                  refine ⟨⟨rfl, rfl⟩, ?_⟩
                  exact fin2 _ _ (by rw [isReqT_some rfl]; simpa using h)
            · have e : isReq (.tup (.str "flip" :: a :: b :: r)) = false := by
                show isReqT (Str.ofString "flip") a b r = false
                rw [isReqT_some (fs := (formsOf "flip").getD []) rfl, decide_eq_false (by show ¬ r.length = 0; exact hr)]; rfl
              have hlen : decide ((((D.str "flip" :: a :: b :: r).length : Nat) : Int) = 3) = false := decide_eq_false (by simp; omega)
              have h1 := hQ E2
              rw [e] at h1
              walk_at "w"
              rw [hlen]
              exact h1
          · by_cases hr : r.length = 1
            · match r, hr with
              | [c], _ =>
                walk_at "w"
                refine ⟨⟨rfl, rfl⟩, ?_⟩
                walk_at "w"
                rw [mt_last rfl]
                walk_at "w"
                rw [at_last]
                refine ⟨by show 2 < 16777216; decide, ?_⟩
                rw [set_last]
                refine counts_ok n Q X _ (st ++ E2).length [a, b, c] (lst_last _ _) (fun d hd => thg_app (thg_app (hth d (by
                  simp only [List.mem_cons, List.not_mem_nil, or_false] at hd ⊢
                  rcases hd with rfl | rfl | rfl
                  · exact .inr (.inl rfl)
                  · exact .inr (.inr (.inl rfl))
                  · exact .inr (.inr (.inr rfl)))))) _ _ _ (fun h => ?_) (fun h o4 => ?_) _
                · exact fin2 _ _ (by rw [isReqT_some rfl]; simpa using h)
                · walk_at "w"
                  refine ⟨⟨rfl, rfl⟩, ?_⟩
                  exact fin2 _ _ (by rw [isReqT_some rfl]; simpa using h)
            · have e : isReq (.tup (.str "part" :: a :: b :: r)) = false := by
                show isReqT (Str.ofString "part") a b r = false
                rw [isReqT_some (fs := (formsOf "part").getD []) rfl, decide_eq_false (by show ¬ r.length = 1; exact hr)]; rfl
              have hlen : decide ((((D.str "part" :: a :: b :: r).length : Nat) : Int) = 4) = false := decide_eq_false (by simp; omega)
              have h1 := hQ E2
              rw [e] at h1
              walk_at "w"
              rw [hlen]
              exact h1
          · by_cases hr : r.length = 1
            · match r, hr with
              | [c], _ =>
                walk_at "w"
                refine ⟨⟨rfl, rfl⟩, ?_⟩
                walk_at "w"
                refine counts_ok n Q X _ (st ++ E2).length [a, b] (lst_last _ _) (fun d hd => thg_app (thg_app (hth d (by
                  simp only [List.mem_cons, List.not_mem_nil, or_false] at hd ⊢
                  rcases hd with rfl | rfl
                  · exact .inr (.inl rfl)
                  · exact .inr (.inr (.inl rfl)))))) _ _ _ (fun h => ?_) (fun h o4 => ?_) _
                · exact fin2 _ _ (by rw [isReqT_some rfl]; simp only [List.all_cons, List.all_nil, Bool.and_true] at h; rw [← Bool.and_assoc (okF _ a), h]; rfl)
                · have hv : isReqT (Str.ofString "name") a b [c] = okF (Str.ofString "name") c := by
                    rw [isReqT_some rfl]; simp only [List.all_cons, List.all_nil, Bool.and_true] at h; rw [← Bool.and_assoc (okF _ a), h]; exact Bool.and_true _
                  have fin3 := fin2 _ [O.lst [a, b]] hv
                  walk_at "w"
                  refine ⟨⟨rfl, rfl⟩, ?_⟩
                  have hc : Thg (st ++ E2 ++ [O.lst [a, b]]) c := thg_app (thg_app (hth c (by simp)))
                  cases c with
                  | ref q =>
                    rcases hc with hc | hc
                    · walk_at "w"
                      rw [hc]
                      exact fin3
                    · walk_at "w"
                      rw [hc]
                      exact fin3
                  | _ => exact fin3
            · have e : isReq (.tup (.str "name" :: a :: b :: r)) = false := by
                show isReqT (Str.ofString "name") a b r = false
                rw [isReqT_some (fs := (formsOf "name").getD []) rfl, decide_eq_false (by show ¬ r.length = 1; exact hr)]; rfl
              have hlen : decide ((((D.str "name" :: a :: b :: r).length : Nat) : Int) = 4) = false := decide_eq_false (by simp; omega)
              have h1 := hQ E2
              rw [e] at h1
              walk_at "w"
              rw [hlen]
              exact h1
          · by_cases hr : r.length = 0
            · match r, hr with
              | [], _ =>
                walk_at "w"
                refine ⟨⟨rfl, rfl⟩, ?_⟩
                walk_at "w"
                refine counts_ok n Q X _ (st ++ E2).length [a, b] (lst_last _ _) (fun d hd => thg_app (thg_app (hth d (by
                  simp only [List.mem_cons, List.not_mem_nil, or_false] at hd ⊢
                  rcases hd with rfl | rfl
                  · exact .inr (.inl rfl)
                  · exact .inr (.inr rfl))))) _ _ _ (fun h => ?_) (fun h o4 => ?_) _
                · exact fin2 _ _ (by rw [isReqT_some rfl]; simpa using h)
                · walk_at "w"
                  refine ⟨⟨rfl, rfl⟩, ?_⟩
                  exact fin2 _ _ (by rw [isReqT_some rfl]; simpa using h)
            · have e : isReq (.tup (.str "spread" :: a :: b :: r)) = false := by
                show isReqT (Str.ofString "spread") a b r = false
                rw [isReqT_some (fs := (formsOf "spread").getD []) rfl, decide_eq_false (by show ¬ r.length = 0; exact hr)]; rfl
              have hlen : decide ((((D.str "spread" :: a :: b :: r).length : Nat) : Int) = 3) = false := decide_eq_false (by simp; omega)
              have h1 := hQ E2
              rw [e] at h1
              walk_at "w"
              rw [hlen]
              exact h1
        · have z1 : dGet many6 (Sum.inr k) = none := dGet_none k _ (by
            intro kv hkv e
            refine hk ?_
            simp only [List.mem_cons, List.not_mem_nil, or_false] at hkv
            rcases hkv with rfl | rfl | rfl | rfl | rfl | rfl <;> cases e <;> decide)
          have z2 : dGet more5 (Sum.inr k) = none := dGet_none k _ (by
            intro kv hkv e
            refine hk ?_
            simp only [List.mem_cons, List.not_mem_nil, or_false] at hkv
            rcases hkv with rfl | rfl | rfl | rfl | rfl <;> cases e <;> decide)
          have e : isReq (.tup (.str k :: a :: b :: r)) = false := isReqT_none (forms_none hk) a b r
          have hlen : decide ((((D.str k :: a :: b :: r).length : Nat) : Int) = 0) = false := decide_eq_false (by simp; omega)
          have h1 := hQ E2
          rw [e] at h1
          rw [z1, z2]
          walk_at "w"
          exact h1
      | ref c =>
        have hc := hth (.ref c) (by simp)
        rcases hc with hc | hc
        · walk_at "w"
          rw [hc]
          exact h0
        · walk_at "w"
          rw [hc]
          exact h0
      | _ => exact h0
  | _ => exact h0
/-! what the law draws -/
theorem number_ok (n : Nat) {ns : List Int} (hns : ns.length ≤ 63) {num : Int} {k : Nat} (hk : k ≤ 100000) {e : Sto} {Q : KD} {X : KX}
    (hQ : ∀ (v num' : Int) (k' : Nat), 0 ≤ v → v < 10 ^ 40 → k' ≤ k + 2 → Q (.int v) (tapeS ns num' k' ++ e)) : callN pr (n+2) f_l_number [.ref 4] (tapeS ns num k ++ e) Q X := by
  refine callN_run rfl rfl ?_
  walk_at "w"
  refine tdraw_ok (p := pr) (f := f_l_draw) (n := n) rfl hns (by omega) (by decide) fun v num1 k1 v0 v1 hk1 => ?_
  walk_at "w"
  split
  · walk_at "w"
    refine tdraw2_ok (p := pr) (f := f_l_draw) (n := n) rfl hns (by omega) (by decide +kernel) (by decide +kernel) fun w num2 k2 w0 w1 hk2 => ?_
    exact hQ _ _ _ w0 w1 (by omega)
  · walk_at "w"
    refine tdraw_ok (p := pr) (f := f_l_draw) (n := n) rfl hns (by omega) (by decide) fun w num2 k2 w0 w1 hk2 => ?_
    exact hQ _ _ _ w0 (Int.lt_trans w1 (by decide +kernel)) (by omega)
def Made (xs : List D) : Prop := 3 ≤ xs.length ∧ xs.length ≤ 6 ∧ ∀ st, ∀ d ∈ xs, Thg st d ∧ ∀ ys, d ≠ .tup ys
theorem made_ok (n : Nat) {ns : List Int} (hns : ns.length ≤ 63) {num : Int} {k : Nat} (hk : k ≤ 10000) {e : Sto} {Q : KD} {X : KX}
    (hQ : ∀ (xs : List D) (num' : Int) (k' : Nat) (e' : Sto), Made xs → k' ≤ k + 20 → Q (.tup xs) (tapeS ns num' k' ++ (e ++ e'))) : callN pr (n+3) f_l_made [.ref 4] (tapeS ns num k ++ e) Q X := by
  refine callN_run rfl rfl ?_
  walk_at "w"
  rw [List.append_assoc (tapeS ns num k)]
  refine tdraw_ok (p := pr) (f := f_l_draw) (n := n+1) rfl hns (by omega) (by decide) fun v num1 k1 v0 v1 hk1 => ?_
  walk_at "w"
  rw [seq_end (by rw [List.length_append]; rfl)]
  obtain ⟨nm, hnm⟩ : ∃ nm : Str, atI [D.str (Str.ofString "rename"), D.str (Str.ofString "move"), D.str (Str.ofString "put"), D.str (Str.ofString "take"), D.str (Str.ofString "field"), D.str (Str.ofString "draw"), D.str (Str.ofString "inplace"), D.str (Str.ofString "flip"), D.str (Str.ofString "part"), D.str (Str.ofString "name"), D.str (Str.ofString "spread")] v = some (.str nm) := by
    rcases (by omega : v = 0 ∨ v = 1 ∨ v = 2 ∨ v = 3 ∨ v = 4 ∨ v = 5 ∨ v = 6 ∨ v = 7 ∨ v = 8 ∨ v = 9 ∨ v = 10) with rfl | rfl | rfl | rfl | rfl | rfl | rfl | rfl | rfl | rfl | rfl <;> exact ⟨_, rfl⟩
  walk_at "w"
  rw [hnm]
  walk_at "w"
  refine number_ok (n+0) hns (by omega) fun a num2 k2 a0 a1 hk2 => ?_
  walk_at "w"
  refine number_ok (n+0) hns (by omega) fun b num3 k3 b0 b1 hk3 => ?_
  walk_at "w"
  rw [List.append_assoc (tapeS ns num3 k3)]
  refine tdraw_ok (p := pr) (f := f_l_draw) (n := n+1) rfl hns (by omega) (by decide) fun v num4 k4 v0 v1 hk4 => ?_
  walk_at "w"
  rw [seq_end (by simp only [List.length_append]; rfl)]
  obtain ⟨n2, hn2⟩ : ∃ n2 : Str, atI [D.str (Str.ofString "ab"), D.str (Str.ofString ""), D.str (Str.ofString "let"), D.str (Str.ofString "a b"), D.str (Str.ofString "Abc9")] v = some (.str n2) := by
    rcases (by omega : v = 0 ∨ v = 1 ∨ v = 2 ∨ v = 3 ∨ v = 4) with rfl | rfl | rfl | rfl | rfl <;> exact ⟨_, rfl⟩
  walk_at "w"
  rw [hn2]
  walk_at "w"
  rw [List.append_assoc e]
  have scal : ∀ d : D, (∃ s, d = .str s) ∨ (∃ i, d = .int i) → ∀ st, Thg st d := by
    rintro d (⟨s, rfl⟩ | ⟨i, rfl⟩) st <;> trivial
  refine ⟨⟨rfl, rfl⟩, ?_⟩
  walk_at "w"
  split
  · walk_at "w"
    refine ⟨by show 3 + 1 ≤ 16777216; decide, ?_⟩
    refine hQ _ _ _ _ ⟨by show 3 ≤ 4; decide, by show 4 ≤ 6; decide, fun st d hd => ?_⟩ (by omega)
    simp only [List.cons_append, List.nil_append, List.mem_cons, List.not_mem_nil, or_false] at hd
    rcases hd with rfl | rfl | rfl | rfl <;> exact ⟨trivial, fun _ e => by cases e⟩
  · walk_at "w"
    refine ⟨⟨rfl, rfl⟩, ?_⟩
    walk_at "w"
    split
    · walk_at "w"
      refine number_ok (n+0) hns (by omega) fun c num5 k5 c0 c1 hk5 => ?_
      walk_at "w"
      refine ⟨by show 3 + 1 ≤ 16777216; decide, ?_⟩
      refine hQ _ _ _ _ ⟨by show 3 ≤ 4; decide, by show 4 ≤ 6; decide, fun st d hd => ?_⟩ (by omega)
      simp only [List.cons_append, List.nil_append, List.mem_cons, List.not_mem_nil, or_false] at hd
      rcases hd with rfl | rfl | rfl | rfl <;> exact ⟨trivial, fun _ e => by cases e⟩
    · walk_at "w"
      split
      · walk_at "w"
        refine number_ok (n+0) hns (by omega) fun c num5 k5 c0 c1 hk5 => ?_
        walk_at "w"
        refine tdraw_ok (p := pr) (f := f_l_draw) (n := n+1) rfl hns (by omega) (by decide) fun w num6 k6 w0 w1 hk6 => ?_
        walk_at "w"
        refine ⟨.inl (.inl (by decide)), ?_⟩
        walk_at "w"
        refine ⟨.inl (.inr (by omega)), ?_⟩
        walk_at "w"
        refine number_ok (n+0) hns (by omega) fun d num7 k7 d0 d1 hk7 => ?_
        walk_at "w"
        refine ⟨by show 3 + 3 ≤ 16777216; decide, ?_⟩
        refine hQ _ _ _ _ ⟨by show 3 ≤ 6; decide, by show 6 ≤ 6; decide, fun st d hd => ?_⟩ (by omega)
        simp only [List.cons_append, List.nil_append, List.mem_cons, List.not_mem_nil, or_false] at hd
        rcases hd with rfl | rfl | rfl | rfl | rfl | rfl <;> exact ⟨trivial, fun _ e => by cases e⟩
      · walk_at "w"
        refine hQ _ _ _ _ ⟨by show 3 ≤ 3; decide, by show 3 ≤ 6; decide, fun st d hd => ?_⟩ (by omega)
        simp only [List.mem_cons, List.not_mem_nil, or_false] at hd
        rcases hd with rfl | rfl | rfl <;> exact ⟨trivial, fun _ e => by cases e⟩
abbrev odd1 (l : Nat) : List D := [D.bl true, D.bl false, D.int (-1), D.non, D.str (Str.ofString ""), D.str (Str.ofString "1"), D.str (Str.ofString "name"), D.str (Str.ofString "put"), D.str (Str.ofString "take"), D.tup [], D.ref (5 + l), D.ref (5 + l + 1)]
abbrev odd2 : List D := [D.int 0, D.int 5, D.int (-10 ^ Int.toNat 20), D.tup [D.str (Str.ofString "rename")], D.tup [D.int 1], D.str (Str.ofString "Flip")]
def FF (l : Nat) : Sto := [O.lst [], O.dK [], O.lst (odd1 l), O.lst odd2, O.lst (odd1 l ++ odd2)]
theorem at_far {ns : List Int} {num : Int} {k : Nat} {e g : Sto} (j : Nat) : (tapeS ns num k ++ (e ++ g))[5 + e.length + j]? = g[j]? := by
  rw [List.getElem?_append_right (by show 5 ≤ _; omega), List.getElem?_append_right (by show e.length ≤ 5 + e.length + j - 5; omega)]
  congr 1
  show 5 + e.length + j - 5 - e.length = j
  omega
theorem odd_at {ns : List Int} {e : Sto} {v : Int} (v0 : 0 ≤ v) (v1 : v < 18) : ∃ d, atI (odd1 e.length ++ odd2) v = some d ∧ ∀ num k g, Thg (tapeS ns num k ++ (e ++ FF e.length ++ g)) d := by
  have hr0 : ∀ num k g, Thg (tapeS ns num k ++ (e ++ FF e.length ++ g)) (.ref (5 + e.length)) := fun num k g => .inl (by
    show (match (tapeS ns num k ++ (e ++ FF e.length ++ g))[5 + e.length + 0]? with
        | some (.lst _) => some "list"
        | some (.fls _) => some "list"
        | some (.dK _) => some "dict"
        | some (.dT _) => some "dict"
        | _ => none) = some "list"
    rw [List.append_assoc, at_far 0]; rfl)
  have hr1 : ∀ num k g, Thg (tapeS ns num k ++ (e ++ FF e.length ++ g)) (.ref (5 + e.length + 1)) := fun num k g => .inr (by
    show (match (tapeS ns num k ++ (e ++ FF e.length ++ g))[5 + e.length + 1]? with
        | some (.lst _) => some "list"
        | some (.fls _) => some "list"
        | some (.dK _) => some "dict"
        | some (.dT _) => some "dict"
        | _ => none) = some "dict"
    rw [List.append_assoc, at_far 1]; rfl)
  rcases (by omega : v = 0 ∨ v = 1 ∨ v = 2 ∨ v = 3 ∨ v = 4 ∨ v = 5 ∨ v = 6 ∨ v = 7 ∨ v = 8 ∨ v = 9 ∨ v = 10 ∨ v = 11 ∨ v = 12 ∨ v = 13 ∨ v = 14 ∨ v = 15 ∨ v = 16 ∨ v = 17) with rfl | rfl | rfl | rfl | rfl | rfl | rfl | rfl | rfl | rfl | rfl | rfl | rfl | rfl | rfl | rfl | rfl | rfl
  all_goals first | exact ⟨_, rfl, hr0⟩ | exact ⟨_, rfl, hr1⟩ | exact ⟨_, rfl, fun _ _ _ => trivial⟩
theorem bent_ok (n : Nat) {ns : List Int} (hns : ns.length ≤ 63) {num : Int} {k : Nat} (hk : k ≤ 10000) {e : Sto} {xs : List D} (hxl : 1 ≤ xs.length ∧ xs.length ≤ 9) (hxs : ∀ num k g, ∀ d ∈ xs, Thg (tapeS ns num k ++ (e ++ g)) d) {Q : KD} {X : KX}
    (hQ : ∀ (ys : List D) (num' : Int) (k' : Nat) (e' : Sto), (ys.length ≤ xs.length + 1 ∧ xs.length ≤ ys.length + 1) → (∀ num k g, ∀ d ∈ ys, Thg (tapeS ns num k ++ (e ++ e' ++ g)) d) → k' ≤ k + 5 → Q (.tup ys) (tapeS ns num' k' ++ (e ++ e'))) : callN pr (n+3) f_l_bent [.ref 4, .tup xs] (tapeS ns num k ++ e) Q X := by
  refine callN_run rfl rfl ?_
  walk_at "w"
  rw [get_app _ (at_last _ _), at_last]
  refine ⟨by show 12 + 6 ≤ 16777216; decide, ?_⟩
  rw [show (tapeS ns num k ++ e).length = 5 + e.length by rw [List.length_append]; rfl, show (tapeS ns num k ++ e ++ [O.lst []]).length = 5 + e.length + 1 by rw [List.length_append, List.length_append]; rfl]
  have hF : tapeS ns num k ++ e ++ [O.lst []] ++ [O.dK []] ++ [O.lst (odd1 e.length)] ++ [O.lst odd2] ++ [O.lst (odd1 e.length ++ odd2)] = tapeS ns num k ++ (e ++ FF e.length) := by unfold FF; simp only [List.append_assoc, List.cons_append, List.nil_append]
  have hG : ∀ o1 o2 o3 o4 : O, (tapeS ns num k ++ e ++ [o1] ++ [o2] ++ [o3] ++ [o4]).length = 5 + e.length + 4 := by intros; simp only [List.length_append, List.length_cons, List.length_nil]; rfl
  rw [hF, hG]
  have hl : ∀ num k, lstAt (tapeS ns num k ++ (e ++ FF e.length)) (5 + e.length + 4) = some (odd1 e.length ++ odd2) := fun num k => by unfold lstAt; rw [at_far]; rfl
  walk_at "w"
  rw [len_lst (hl num k)]
  walk_at "w"
  refine tdraw_ok (p := pr) (f := f_l_draw) (n := n+1) rfl hns (by omega) ⟨by show (0 : Int) < 18; decide, by show (18 : Int) ≤ 1000000; decide⟩ fun v num1 k1 v0 v1 hk1 => ?_
  obtain ⟨one, ho1, ho2⟩ := odd_at (ns := ns) (e := e) v0 (by simpa using v1)
  walk_at "w"
  rw [show seqOf (tapeS ns num1 k1 ++ (e ++ FF e.length)) (.ref (5 + e.length + 4)) = some (odd1 e.length ++ odd2) from hl num1 k1]
  walk_at "w"
  rw [ho1]
  walk_at "w"
  refine tdraw_ok (p := pr) (f := f_l_draw) (n := n+1) rfl hns (by omega) (by decide) fun way num2 k2 w0 w1 hk2 => ?_
  have app : Q (.tup (xs ++ [one])) (tapeS ns num2 k2 ++ (e ++ FF e.length)) := hQ _ _ _ _ (by rw [List.length_append, List.length_singleton]; omega) (fun num k g d hd => by
    rcases List.mem_append.mp hd with hd | hd
    · rw [List.append_assoc]
      exact hxs _ _ _ _ hd
    · rw [List.mem_singleton] at hd
      subst hd
      exact ho2 _ _ _) (by omega)
  have cont : ∀ (o5 : Option D), wSs (drop 5 s_l_bent) (pr.cl (n+2)) { nx := fun _ st' => Q .non st', rt := Q } (fun c fs _ st' => X c fs st') [some (.ref 4), some (.tup xs), some (.ref (5 + e.length + 4)), some one, some (.int way), o5] (tapeS ns num2 k2 ++ (e ++ FF e.length)) := by
    intro o5
    walk_at "w"
    refine tdraw_ok (p := pr) (f := f_l_draw) (n := n+1) rfl hns (by omega) (by omega) fun v num3 k3 v0 v1 hk3 => ?_
    obtain ⟨j, rfl⟩ : ∃ j : Nat, v = (j : Int) := ⟨v.toNat, by omega⟩
    have hj : j < xs.length := by omega
    have c1 : cutD xs none (some (j : Int)) = xs.take j := cutD_to _ _
    have c2 : cutD xs (some ((j : Int) + 1)) none = xs.drop (j + 1) := cutD_from _ (j + 1)
    have mt : ∀ d ∈ xs.take j, d ∈ xs := fun d hd => List.mem_of_mem_take hd
    have md : ∀ d ∈ xs.drop (j+1), d ∈ xs := fun d hd => List.mem_of_mem_drop hd
    walk_at "w"
    split
    · walk_at "w"
      rw [c1, c2]
      refine ⟨by rw [List.length_take, List.length_drop]; show _ ≤ 16777216; omega, ?_⟩
      refine hQ _ _ _ _ (by rw [List.length_append, List.length_take, List.length_drop]; omega) (fun num k g d hd => ?_) (by omega)
      rw [List.append_assoc]
      rcases List.mem_append.mp hd with hd | hd
      · exact hxs _ _ _ _ (mt _ hd)
      · exact hxs _ _ _ _ (md _ hd)
    · walk_at "w"
      rw [c1]
      refine ⟨by rw [List.length_take]; show _ + 1 ≤ 16777216; omega, ?_⟩
      walk_at "w"
      rw [c2]
      refine ⟨by rw [List.length_append, List.length_take, List.length_drop]; show _ + 1 + _ ≤ 16777216; omega, ?_⟩
      refine hQ _ _ _ _ (by rw [List.length_append, List.length_append, List.length_take, List.length_drop, List.length_singleton]; omega) (fun num k g d hd => ?_) (by omega)
      rcases List.mem_append.mp hd with hd | hd
      · rcases List.mem_append.mp hd with hd | hd
        · rw [List.append_assoc]
          exact hxs _ _ _ _ (mt _ hd)
        · rw [List.mem_singleton] at hd
          subst hd
          exact ho2 _ _ _
      · rw [List.append_assoc]
        exact hxs _ _ _ _ (md _ hd)
  walk_at "w"
  split
  · walk_at "w"
    refine ⟨by rw [List.length_singleton]; show _ ≤ 16777216; omega, ?_⟩
    exact app
  · walk_at "w"
    have hx1 : emC (tapeS ns num2 k2 ++ (e ++ FF e.length)) (.tup xs) (.tup []) = some false := by
      cases xs with
      | nil => exact absurd hxl.1 (by decide)
      | cons x xs => rfl
    refine .inl ⟨false, hx1, ?_⟩
    exact cont _
theorem glue (A B : Sto) (o1 o2 o3 o4 : O) : A ++ B ++ [o1] ++ [o2] ++ [o3] ++ [o4] = A ++ ((B ++ [o1]) ++ [o2, o3, o4]) := by simp
/-- a thing the two words are asked of, in any store that begins so -/
def Ask (ns : List Int) (E : Sto) (d : D) : Prop := (∀ num k g, Thg (tapeS ns num k ++ (E ++ g)) d) ∧ ∀ xs, d = .tup xs → xs.length ≤ 100 ∧ ∀ num k g, ∀ z ∈ xs, Thg (tapeS ns num k ++ (E ++ g)) z
theorem law_ok (n : Nat) (ns : List Int) (hns : ns.length ≤ 63) : callN pr (n+4) f_law [.ref 0] [.fls (ns.map D.int)] (fun d _ => d = .bl true) noX := by
  refine callN_run rfl rfl ?_
  walk_at "w"
  refine tape_ok (p := pr) (f := f_l_tape) (n := n+2) rfl hns fun num => ?_
  walk_at "w"
  refine loopF_rng (fun i en st' => ∃ (num' : Int) (k' : Nat) (E : Sto) (o2 o3 o4 o5 o6 o7 : Option D), st' = tapeS ns num' k' ++ E ∧ k' ≤ 40 * i ∧ en = [some (.ref 0), some (.ref 4), o2, o3, o4, o5, o6, o7]) (fun _ _ _ _ => gOk_nil) ?_ ?_ ⟨num, 0, [], _, _, _, _, _, _, by simp, Nat.le_refl _, rfl⟩
  · rintro i hi K' en st' ⟨num', k', E, o2, o3, o4, o5, o6, o7, rfl, hk', rfl⟩ hK
    have hi : i < 5 := hi
    walk_at "w"
    refine made_ok n hns (by omega) fun xs1 num1 k1 e1 hx1 hk1 => ?_
    walk_at "w"
    refine bent_ok n hns (by omega) (by have := hx1.1; have := hx1.2.1; omega) (fun num k g d hd => (hx1.2.2 _ d hd).1) fun xs2 num2 k2 e2 hx2 ht2 hk2 => ?_
    walk_at "w"
    refine bent_ok n hns (by omega) (by have := hx1.1; have := hx1.2.1; omega) (fun num k g d hd => ht2 num k g d hd) fun xs3 num3 k3 e3 hx3 ht3 hk3 => ?_
    walk_at "w"
    obtain ⟨d0, hd0, hm0⟩ : ∃ d0, atI xs1 0 = some d0 ∧ d0 ∈ xs1 := by
      match xs1, hx1 with
      | [], h => exact absurd h.1 (by decide)
      | x :: t, _ => exact ⟨x, atI_S (j := 0) (by simp), by simp⟩
    rw [hd0]
    walk_at "w"
    rw [get_app _ (at_last _ _), at_last]
    refine ⟨by show 7 + 2 ≤ 16777216; decide, ?_⟩
    walk_at "w"
    rw [lst_last]
    have hask : ∀ d ∈ [D.tup xs1, D.tup xs2, D.tup xs3, D.ref (tapeS ns num3 k3 ++ (E ++ e1 ++ e2 ++ e3)).length, d0, D.tup [D.tup xs1], D.tup (cutD xs1 none (some 2))] ++ [D.tup [], D.non], Ask ns (E ++ e1 ++ e2 ++ e3 ++ [O.lst xs1]) d := by
      have m1 := hx1.1
      have m2 := hx1.2.1
      have triv : ∀ xs, (∀ num k g, Thg (tapeS ns num k ++ ((E ++ e1 ++ e2 ++ e3 ++ [O.lst xs1]) ++ g)) (.tup xs)) := fun _ _ _ _ => trivial
      have c1 : cutD xs1 none (some 2) = xs1.take 2 := cutD_to _ 2
      intro d hd
      simp only [List.cons_append, List.nil_append, List.mem_cons, List.not_mem_nil, or_false] at hd
      rcases hd with rfl | rfl | rfl | rfl | rfl | rfl | rfl | rfl | rfl
      · exact ⟨triv _, fun xs e => by cases e; exact ⟨by omega, fun num k g z hz => (hx1.2.2 _ z hz).1⟩⟩
      · exact ⟨triv _, fun xs e => by
          cases e
          refine ⟨by omega, fun num k g z hz => ?_⟩
          have := ht2 num k (e3 ++ [O.lst xs1] ++ g) z hz
          rwa [show E ++ e1 ++ e2 ++ e3 ++ [O.lst xs1] ++ g = E ++ e1 ++ e2 ++ (e3 ++ [O.lst xs1] ++ g) by simp only [List.append_assoc]]⟩
      · exact ⟨triv _, fun xs e => by
          cases e
          refine ⟨by omega, fun num k g z hz => ?_⟩
          have := ht3 num k ([O.lst xs1] ++ g) z hz
          rwa [show E ++ e1 ++ e2 ++ e3 ++ [O.lst xs1] ++ g = E ++ e1 ++ e2 ++ e3 ++ ([O.lst xs1] ++ g) by simp only [List.append_assoc]]⟩
      · refine ⟨fun num k g => .inl ?_, fun xs e => by cases e⟩
        show (match (tapeS ns num k ++ ((E ++ e1 ++ e2 ++ e3 ++ [O.lst xs1]) ++ g))[(tapeS ns num3 k3 ++ (E ++ e1 ++ e2 ++ e3)).length]? with
          | some (.lst _) => some "list"
          | some (.fls _) => some "list"
          | some (.dK _) => some "dict"
          | some (.dT _) => some "dict"
          | _ => none) = some "list"
        rw [show (tapeS ns num3 k3 ++ (E ++ e1 ++ e2 ++ e3)).length = 5 + (E ++ e1 ++ e2 ++ e3).length + 0 by rw [List.length_append]; rfl, List.append_assoc (E ++ e1 ++ e2 ++ e3), at_far 0]
        rfl
      · exact ⟨fun num k g => (hx1.2.2 _ _ hm0).1, fun xs e => absurd e ((hx1.2.2 [] _ hm0).2 xs)⟩
      · exact ⟨triv _, fun xs e => by
          cases e
          refine ⟨by show 1 ≤ 100; decide, fun num k g z hz => ?_⟩
          rw [List.mem_singleton] at hz
          subst hz
          trivial⟩
      · exact ⟨triv _, fun xs e => by
          cases e
          rw [c1]
          exact ⟨by rw [List.length_take]; omega, fun num k g z hz => (hx1.2.2 _ z (List.mem_of_mem_take hz)).1⟩⟩
      · exact ⟨triv _, fun xs e => by cases e; exact ⟨by decide, fun num k g z hz => by cases hz⟩⟩
      · exact ⟨fun _ _ _ => trivial, fun xs e => by cases e⟩
    have hl := lst_last (tapeS ns num3 k3 ++ (E ++ e1 ++ e2 ++ e3) ++ [O.lst xs1] ++ [O.lst [D.tup xs1, D.tup xs2, D.tup xs3, D.ref (tapeS ns num3 k3 ++ (E ++ e1 ++ e2 ++ e3)).length, d0, D.tup [D.tup xs1], D.tup (cutD xs1 none (some 2))]] ++ [O.lst [D.tup [], D.non]]) ([D.tup xs1, D.tup xs2, D.tup xs3, D.ref (tapeS ns num3 k3 ++ (E ++ e1 ++ e2 ++ e3)).length, d0, D.tup [D.tup xs1], D.tup (cutD xs1 none (some 2))] ++ [D.tup [], D.non])
    obtain ⟨G, hG⟩ : ∃ G, tapeS ns num3 k3 ++ (E ++ e1 ++ e2 ++ e3) ++ [O.lst xs1] ++ [O.lst [D.tup xs1, D.tup xs2, D.tup xs3, D.ref (tapeS ns num3 k3 ++ (E ++ e1 ++ e2 ++ e3)).length, d0, D.tup [D.tup xs1], D.tup (cutD xs1 none (some 2))]] ++ [O.lst [D.tup [], D.non]] ++ [O.lst ([D.tup xs1, D.tup xs2, D.tup xs3, D.ref (tapeS ns num3 k3 ++ (E ++ e1 ++ e2 ++ e3)).length, d0, D.tup [D.tup xs1], D.tup (cutD xs1 none (some 2))] ++ [D.tup [], D.non])] = tapeS ns num3 k3 ++ ((E ++ e1 ++ e2 ++ e3 ++ [O.lst xs1]) ++ G) := ⟨_, glue _ _ _ _ _ _⟩
    generalize (tapeS ns num3 k3 ++ (E ++ e1 ++ e2 ++ e3) ++ [O.lst xs1] ++ [O.lst [D.tup xs1, D.tup xs2, D.tup xs3, D.ref (tapeS ns num3 k3 ++ (E ++ e1 ++ e2 ++ e3)).length, d0, D.tup [D.tup xs1], D.tup (cutD xs1 none (some 2))]] ++ [O.lst [D.tup [], D.non]]).length = ix at hl ⊢
    rw [hG] at hl ⊢
    generalize [D.tup xs1, D.tup xs2, D.tup xs3, D.ref (tapeS ns num3 k3 ++ (E ++ e1 ++ e2 ++ e3)).length, d0, D.tup [D.tup xs1], D.tup (cutD xs1 none (some 2))] ++ [D.tup [], D.non] = items at hl hask ⊢
    generalize E ++ e1 ++ e2 ++ e3 ++ [O.lst xs1] = E4 at hl hask ⊢
    walk_at "w"
    rw [show items = items.map (fun d => d) from (List.map_id' items).symm]
    refine loopF_inv (fun pre en st' => ∃ (g : Sto) (o6 o7 : Option D), st' = tapeS ns num3 k3 ++ (E4 ++ (G ++ g)) ∧ en = [some (.ref 0), some (.ref 4), some (.int (0 + (i : Int))), some (.tup xs1), some (.tup xs2), some (.ref (tapeS ns num3 k3 ++ (E ++ e1 ++ e2 ++ e3) ++ [O.lst xs1]).length), o6, o7]) items ?_ ?_ ?_ ⟨[], _, _, by simp, rfl⟩
    · rintro pre en st' ⟨g, o6, o7, rfl, rfl⟩
      exact gOk_one (by rw [List.map_id', ← List.append_assoc E4, ← List.append_assoc (tapeS ns num3 k3)]; exact lst_app g hl)
    · rintro pre x post hall K2 en st' ⟨g, o6, o7, rfl, rfl⟩ hK2
      have hx := hask x (by rw [hall]; simp)
      walk_at "w"
      refine is_request_ok (n+1) x _ (hx.1 num3 k3 (G ++ g)) (fun xs e => ⟨(hx.2 xs e).1, fun d hd => (hx.2 xs e).2 num3 k3 (G ++ g) d hd⟩) _ _ fun ea => ?_
      walk_at "w"
      refine lreq_ok (n+2) x _ (thg_app (hx.1 num3 k3 (G ++ g))) (fun xs e => ⟨(hx.2 xs e).1, fun d hd => thg_app ((hx.2 xs e).2 num3 k3 (G ++ g) d hd)⟩) _ _ fun eb => ?_
      walk_at "w"
      rw [decide_eq_true (rfl : isReq x = isReq x)]
      exact hK2 _ _ ⟨g ++ ea ++ eb, _, _, by simp only [List.append_assoc], rfl⟩
    · rintro en st' ⟨g, o6, o7, rfl, rfl⟩
      exact hK _ _ ⟨num3, k3, _, _, _, _, _, _, _, rfl, by omega, rfl⟩
  · rintro en st' ⟨num', k', E, o2, o3, o4, o5, o6, o7, rfl, hk', rfl⟩
    rfl
end Nk73

set_option Elab.async false
set_option linter.all false
set_option maxRecDepth 100000
set_option maxHeartbeats 0
/-! k73: the walk, printed by prt.py -/
namespace Lk73
open PySem PySem.Spec PyProof.Rows L2 Q3
def top (i : Nat) : Stmt := PySem.Challenge.pw_turnsame_k73_requests.main.body.getD i (.Pass ⟨0, 0, 0, 0⟩)
def M : Nms := { F := ["is_thing_of", "is_request", "_law_tape", "_law_draw", "_law_is_request", "_law_number", "_law_made", "_law_bent", "law"], Gn := [], B := ["all", "bool", "int", "isinstance", "len", "list", "range", "str", "tuple", "zip"], Kn := ["FORMS"] }
def kds : List Kd := [("FORMS", kd_FORMS)]
def cs : List (Str × D) := []
def fa : List He.Fa := [.glo "is_thing_of", .glo "is_request", .glo "_law_tape", .glo "_law_draw", .glo "_law_is_request", .glo "_law_number", .glo "_law_made", .glo "_law_bent", .glo "law", .free "all", .free "bool", .free "int", .free "isinstance", .free "len", .free "list", .free "range", .free "str", .free "tuple", .free "zip"]
abbrev d_is_thing_of : He.DefD := ⟨("is_thing_of", none), "is_thing_of", "is_thing_of", defArgs (top 2), defBody (top 2), defScope (top 2), [], []⟩
abbrev d_is_request : He.DefD := ⟨("is_request", none), "is_request", "is_request", defArgs (top 3), defBody (top 3), defScope (top 3), [], []⟩
abbrev d_l_tape : He.DefD := ⟨("_law_tape", none), "_law_tape", "_law_tape", defArgs (top 5), defBody (top 5), defScope (top 5), [], []⟩
abbrev d_l_draw : He.DefD := ⟨("_law_draw", none), "_law_draw", "_law_draw", defArgs (top 6), defBody (top 6), defScope (top 6), [], []⟩
abbrev d_l_is_request : He.DefD := ⟨("_law_is_request", none), "_law_is_request", "_law_is_request", defArgs (top 7), defBody (top 7), defScope (top 7), [], []⟩
abbrev d_l_number : He.DefD := ⟨("_law_number", none), "_law_number", "_law_number", defArgs (top 8), defBody (top 8), defScope (top 8), [], []⟩
abbrev d_l_made : He.DefD := ⟨("_law_made", none), "_law_made", "_law_made", defArgs (top 9), defBody (top 9), defScope (top 9), [], []⟩
abbrev d_l_bent : He.DefD := ⟨("_law_bent", none), "_law_bent", "_law_bent", defArgs (top 10), defBody (top 10), defScope (top 10), [], []⟩
abbrev d_law : He.DefD := ⟨("law", none), "law", "law", defArgs (top 11), defBody (top 11), defScope (top 11), [], []⟩
def fn : List He.DefD := [d_is_thing_of, d_is_request, d_l_tape, d_l_draw, d_l_is_request, d_l_number, d_l_made, d_l_bent, d_law]
abbrev n_is_thing_of : List Str := ["form", "thing"]
theorem k_is_thing_of : chkSs s_is_thing_of M n_is_thing_of (defScope (top 2)) (defBody (top 2)) = true := by decide +kernel
abbrev n_is_request : List Str := ["thing", "forms", "form", "one"]
theorem k_is_request : chkSs s_is_request M n_is_request (defScope (top 3)) (defBody (top 3)) = true := by decide +kernel
abbrev n_l_tape : List Str := ["_law_script", "_law_number_here"]
theorem k_l_tape : chkSs s_l_tape M n_l_tape (defScope (top 5)) (defBody (top 5)) = true := by decide +kernel
abbrev n_l_draw : List Str := ["_law_tape_here", "_law_many", "_law_found", "_law_k", "_law_cell", "_law_stirred"]
theorem k_l_draw : chkSs s_l_draw M n_l_draw (defScope (top 6)) (defBody (top 6)) = true := by decide +kernel
abbrev n_l_is_request : List Str := ["_law_thing", "_law_many", "_law_more", "_law_counts", "_law_one"]
theorem k_l_is_request : chkSs s_l_is_request M n_l_is_request (defScope (top 7)) (defBody (top 7)) = true := by decide +kernel
abbrev n_l_number : List Str := ["_law_tape_here"]
theorem k_l_number : chkSs s_l_number M n_l_number (defScope (top 8)) (defBody (top 8)) = true := by decide +kernel
abbrev n_l_made : List Str := ["_law_tape_here", "_law_kinds", "_law_kind", "_law_head", "_law_name", "_law_number_here"]
theorem k_l_made : chkSs s_l_made M n_l_made (defScope (top 9)) (defBody (top 9)) = true := by decide +kernel
abbrev n_l_bent : List Str := ["_law_tape_here", "_law_thing", "_law_odd", "_law_one", "_law_way", "_law_at"]
theorem k_l_bent : chkSs s_l_bent M n_l_bent (defScope (top 10)) (defBody (top 10)) = true := by decide +kernel
abbrev n_law : List Str := ["_law_script", "_law_tape_here", "_law_k", "_law_made_here", "_law_bent_here", "_law_some", "_law_one", "_law_found"]
theorem k_law : chkSs s_law M n_law (defScope (top 11)) (defBody (top 11)) = true := by decide +kernel
section
variable {w : World} {K : PySem.W.Frag} {h : Heap} {mg : Str → Option Value}
theorem hgk : ∀ j : Fin cs.length, pr.G[j.1]? = (cs[j.1]?).map (·.2) := by
  intro j
  match j with
  | ⟨n, h⟩ => exact absurd h (by show ¬ n < 0; omega)
theorem txt (X : K.In h) (G : h.Ns mainGlobals mg) (c : SaysQ fa fn cs kds w K) : TxtOk w K mg pr M := by
  refine ⟨fun k x e => ?_, fun x hx => ?_, fun f x e => ?_, c.dicts X G⟩
  · have hc : ∀ i : Nat, ∀ p, cs[i]? = some p → M.Gn[i]? = some p.1 ∧ pr.G[i]? = some p.2 := by
      intro i p e
      have hi : i < cs.length := (List.getElem?_eq_some_iff.mp e).1
      have : ∀ j : Fin cs.length, M.Gn[j.1]? = (cs[j.1]?).map (·.1) ∧ pr.G[j.1]? = (cs[j.1]?).map (·.2) := by
        intro j; exact ⟨(by revert j; decide +kernel), (by revert j; exact hgk)⟩
      have q := this ⟨i, hi⟩
      rw [e] at q
      exact q
    have hk : k < cs.length := by
      have : k < M.Gn.length := (List.getElem?_eq_some_iff.mp e).1
      exact this
    obtain ⟨h1, h2⟩ := hc k cs[k] (List.getElem?_eq_getElem hk)
    rw [e] at h1
    obtain ⟨u, v, q1, q2, q3⟩ := conB_ok X G (List.all_eq_true.mp c.c cs[k] (List.getElem_mem hk))
    exact ⟨cs[k].2, u, v, h2, by rw [Option.some.inj h1]; exact q1, q2, q3⟩
  · have : ∀ y ∈ M.B, He.Fa.free y ∈ fa := by
      intro y hy
      simp only [M, List.mem_cons, List.not_mem_nil, or_false] at hy
      unfold fa
      rcases hy with rfl | rfl | rfl | rfl | rfl | rfl | rfl | rfl | rfl | rfl <;> simp
    have q := this x hx
    obtain ⟨i, hi⟩ := List.getElem?_of_mem q
    exact He.free_ok X G (c.d.fact i hi)
  · have hf : f < 9 := (List.getElem?_eq_some_iff.mp e).1
    match f, hf, e with
    | 0, _, e =>
      cases e
      obtain ⟨fd, F⟩ := c.d.def_ 0 (d := d_is_thing_of) rfl
      exact ⟨_, rfl, ⟨_, _, _, n_is_thing_of, ["form", "thing"], _, fd, F, He.glo_ok X G (c.d.fact 0 rfl), by decide +kernel, fun _ _ _ _ _ _ us hl => match us, hl with | [_, _], _ => rfl, k_is_thing_of, rfl, rfl⟩⟩
    | 1, _, e =>
      cases e
      obtain ⟨fd, F⟩ := c.d.def_ 1 (d := d_is_request) rfl
      exact ⟨_, rfl, ⟨_, _, _, n_is_request, ["thing"], _, fd, F, He.glo_ok X G (c.d.fact 1 rfl), by decide +kernel, fun _ _ _ _ _ _ us hl => match us, hl with | [_], _ => rfl, k_is_request, rfl, rfl⟩⟩
    | 2, _, e =>
      cases e
      obtain ⟨fd, F⟩ := c.d.def_ 2 (d := d_l_tape) rfl
      exact ⟨_, rfl, ⟨_, _, _, n_l_tape, ["_law_script"], _, fd, F, He.glo_ok X G (c.d.fact 2 rfl), by decide +kernel, fun _ _ _ _ _ _ us hl => match us, hl with | [_], _ => rfl, k_l_tape, rfl, rfl⟩⟩
    | 3, _, e =>
      cases e
      obtain ⟨fd, F⟩ := c.d.def_ 3 (d := d_l_draw) rfl
      exact ⟨_, rfl, ⟨_, _, _, n_l_draw, ["_law_tape_here", "_law_many"], _, fd, F, He.glo_ok X G (c.d.fact 3 rfl), by decide +kernel, fun _ _ _ _ _ _ us hl => match us, hl with | [_, _], _ => rfl, k_l_draw, rfl, rfl⟩⟩
    | 4, _, e =>
      cases e
      obtain ⟨fd, F⟩ := c.d.def_ 4 (d := d_l_is_request) rfl
      exact ⟨_, rfl, ⟨_, _, _, n_l_is_request, ["_law_thing"], _, fd, F, He.glo_ok X G (c.d.fact 4 rfl), by decide +kernel, fun _ _ _ _ _ _ us hl => match us, hl with | [_], _ => rfl, k_l_is_request, rfl, rfl⟩⟩
    | 5, _, e =>
      cases e
      obtain ⟨fd, F⟩ := c.d.def_ 5 (d := d_l_number) rfl
      exact ⟨_, rfl, ⟨_, _, _, n_l_number, ["_law_tape_here"], _, fd, F, He.glo_ok X G (c.d.fact 5 rfl), by decide +kernel, fun _ _ _ _ _ _ us hl => match us, hl with | [_], _ => rfl, k_l_number, rfl, rfl⟩⟩
    | 6, _, e =>
      cases e
      obtain ⟨fd, F⟩ := c.d.def_ 6 (d := d_l_made) rfl
      exact ⟨_, rfl, ⟨_, _, _, n_l_made, ["_law_tape_here"], _, fd, F, He.glo_ok X G (c.d.fact 6 rfl), by decide +kernel, fun _ _ _ _ _ _ us hl => match us, hl with | [_], _ => rfl, k_l_made, rfl, rfl⟩⟩
    | 7, _, e =>
      cases e
      obtain ⟨fd, F⟩ := c.d.def_ 7 (d := d_l_bent) rfl
      exact ⟨_, rfl, ⟨_, _, _, n_l_bent, ["_law_tape_here", "_law_thing"], _, fd, F, He.glo_ok X G (c.d.fact 7 rfl), by decide +kernel, fun _ _ _ _ _ _ us hl => match us, hl with | [_, _], _ => rfl, k_l_bent, rfl, rfl⟩⟩
    | 8, _, e =>
      cases e
      obtain ⟨fd, F⟩ := c.d.def_ 8 (d := d_law) rfl
      exact ⟨_, rfl, ⟨_, _, _, n_law, ["_law_script"], _, fd, F, He.glo_ok X G (c.d.fact 8 rfl), by decide +kernel, fun _ _ _ _ _ _ us hl => match us, hl with | [_], _ => rfl, k_law, rfl, rfl⟩⟩
end
abbrev R : PySem.W.OpenRow := PySem.W.OpenLaw.row PySem.Challenge.rw_turnsame_k73_requests
abbrev hk : PySem.W.Hook := hookQ 4 fa fn cs kds
def ob (s : PySem.W.SharedT) : AlQ := obsQG 4 fa fn cs kds (HandSHeadRun.getT s)
theorem ob_eq (s : PySem.W.SharedT) : ob s = hk.obs s.abs := obsQG_eq (HandSHeadRun.getT_eq s)
theorem run0 (w : World) (b : Bool) : HandSHeadRun.RunEq R (PySem.W.view R.prog [11]) hk ob 4000 ["__name__", "FORMS", "is_thing_of", "is_request", "_law_tape", "_law_draw", "_law_is_request", "_law_number", "_law_made", "_law_bent"] (Q3.setF w b) := by
  intro os
  cases b <;> kernel_rfl
theorem run (w : World) : HandSHeadRun.RunEq R (PySem.W.view R.prog [11]) hk ob 4000 ["__name__", "FORMS", "is_thing_of", "is_request", "_law_tape", "_law_draw", "_law_is_request", "_law_number", "_law_made", "_law_bent"] w := by
  rw [Q3.setF_eq w]
  exact run0 w _
end Lk73
open PySem PySem.W PySem.Calls PyProof.Rows
theorem Lk73.law_holds (k : Nat) (hr : L2.Room (k + 1) callerA) (main : ∀ ns : List Int, ns.length ≤ 63 → Q3.callN Lk73.pr (k + 1) Lk73.f_law [.ref 0] (Q3.scr ns) (fun d _ => d = .bl true) Q3.noX) : PySem.Challenge.rw_turnsame_k73_requests.Holds := by
  w_on; o_law
  refine HandSHeadRun.head_any (r := OpenLaw.row PySem.Challenge.rw_turnsame_k73_requests) (q := view (OpenLaw.row PySem.Challenge.rw_turnsame_k73_requests).prog [11]) (H := Lk73.hk) (ob := Lk73.ob) (M := 4000) (loose := ["__name__", "FORMS", "is_thing_of", "is_request", "_law_tape", "_law_draw", "_law_is_request", "_law_number", "_law_made", "_law_bent"]) (d := HandSHeadRun.topDef (OpenLaw.row PySem.Challenge.rw_turnsame_k73_requests).prog 11) (kwd := []) Lk73.ob_eq
    (by kernel_rfl) (fun s => by kernel_rfl) Lk73.run (by kernel_rfl) (by kernel_rfl) (by kernel_rfl) (by rfl) (by first | assumption | decide +kernel) (by decide +kernel) ⟨rfl, rfl, rfl, rfl, rfl, by decide +kernel⟩ ?hw ?hc
  case hw => w_witness2
  case hc => exact Q3.walk_q (l := PySem.Challenge.rw_turnsame_k73_requests) (n := 63) (k := k) (f := Lk73.f_law) rfl (by decide) (by kernel_rfl) hr Lk73.txt rfl main

theorem Lk73.main (ns : List Int) (h : ns.length ≤ 63) : Q3.callN Lk73.pr 8 Lk73.f_law [.ref 0] (Q3.scr ns) (fun d _ => d = .bl true) Q3.noX := Nk73.law_ok 4 ns h

theorem PySem.Challenge.cw_turnsame_k73_requests_holds : PySem.Challenge.rw_turnsame_k73_requests.Holds := by
  exact Lk73.law_holds 7 ⟨rfl, by decide, by decide⟩ fun ns h => Lk73.main ns h
