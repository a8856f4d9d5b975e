import PyProof.Rows.All
import Wide.All
import OpenK.AllK
import Wide.FinOn
import HandS.ForMost
import HandS.ForExc
import HandS.ExcInit
import HandS.ExcField
import HandS.Defaults
import HandS.IsInst
import HandS.FStr
import HandS.TupAny
import HandS.TupLen
import HandS.DictComp
import HandS.Zip
import HandS.Small
import HandS.TryMany
import HandS.EndBits
import HandS.HeadEnd
import HandS.HeadHook3
import HandS.Head2
import KE.GoesMore
import KE.GoesZip
import HandS.Head0
import HandS.Head1
import HandS.HeadHook4
import KE.KStateDown
import HandS.Words
import HandS.Text
import PySem.Challenge.RW_pastless_k12_pasts_led_and_answered
set_option Elab.async false
set_option linter.all false
set_option maxRecDepth 100000
set_option maxHeartbeats 4000000
namespace Y
open PySem
inductive D where
  | non | bl (b : Bool) | int (i : Int) | str (x : List Nat) | tup (ds : List D) | ref (h : Nat) | kon (k : Nat)
mutual
def D.eqb : D → D → Bool
  | .non, .non => true
  | .bl a, .bl b => a == b
  | .int a, .int b => a == b
  | .str a, .str b => decide (a = b)
  | .tup a, .tup b => D.eqbs a b
  | .ref a, .ref b => a == b
  | .kon a, .kon b => a == b
  | _, _ => false
def D.eqbs : List D → List D → Bool
  | [], [] => true
  | a :: as, b :: bs => D.eqb a b && D.eqbs as bs
  | _, _ => false
end
mutual
theorem D.eqb_iff : ∀ a b : D, D.eqb a b = true ↔ a = b
  | .tup a, b => by
    cases b <;> simp only [D.eqb, Bool.false_eq_true, reduceCtorEq]
    rename_i ds
    rw [D.eqbs_iff a ds]
    exact ⟨fun h => by rw [h], fun h => by injection h⟩
  | .non, b => by cases b <;> simp [D.eqb]
  | .bl x, b => by cases b <;> simp [D.eqb]
  | .int x, b => by cases b <;> simp [D.eqb]
  | .str x, b => by cases b <;> simp [D.eqb]
  | .ref x, b => by cases b <;> simp [D.eqb]
  | .kon x, b => by cases b <;> simp [D.eqb]
theorem D.eqbs_iff : ∀ a b : List D, D.eqbs a b = true ↔ a = b
  | [], [] => by simp [D.eqbs]
  | [], _ :: _ => by simp [D.eqbs]
  | _ :: _, [] => by simp [D.eqbs]
  | a :: as, b :: bs => by
    simp only [D.eqbs, Bool.and_eq_true, List.cons.injEq]
    rw [D.eqb_iff a b, D.eqbs_iff as bs]
end
instance : DecidableEq D := fun a b => if h : D.eqb a b = true then isTrue ((D.eqb_iff a b).mp h) else isFalse fun e => h ((D.eqb_iff a b).mpr e)
instance : Inhabited D := ⟨.non⟩
inductive O where
  | lst (ds : List D)
  | fro (ds : List D)
  | dic (kvs : List (D × D))
  | ins (c : Nat) (fs : List (Nat × D))
abbrev Store := List O
abbrev Env := List (Option D)
structure Exc where
  cls : Nat
  fs : List (Nat × D)
inductive Op where
  | add | sub | mul | fdiv | mod | pow
inductive Cm where
  | eq | ne | lt | le | gt | ge | inn | nin
  deriving DecidableEq
inductive Ty where
  | int | str | bool | tuple | list | dict | own (c : Nat)
  deriving DecidableEq
inductive Pr where
  | len | int | str | abs | max2 | min2 | tuple | list | any | all | sum | max | min | bool
  deriving DecidableEq
inductive Me where
  | append | pop | popAt | insert | extend | reverse | clear | index | get1 | get2 | setdefault | split | join
  deriving DecidableEq
inductive Tg where
  | nm (i : Nat) | tp (is : List Nat)
mutual
inductive E where
  | var (i : Nat) | con (d : D) | glo (g : Nat)
  | bin (o : Op) (a b : E) | neg (a : E)
  | cmp (o : Cm) (a b : E) | chain (o o' : Cm) (a b c : E)
  | isN (a : E) | notN (a : E)
  | and (a b : E) | or (a b : E) | not (a : E)
  | ife (c a b : E)
  | call (f : Nat) (as : A) (df : List D)
  | make (c f : Nat) (as : A)
  | meth (alts : List (Nat × Nat)) (o : E) (as : A)
  | fld (f : Nat) (o : E)
  | pr (p : Pr) (as : A)
  | me (m : Me) (o : E) (as : A)
  | isi (a : E) (ts : List Ty)
  | idx (a b : E) | sli (a lo hi : E) | abs0
  | tup (as : A) | lst (as : A) | dic (as : A)
  | comp (elt : E) (tg : Tg) (it : E) (cs : A) (own : List Nat)
  | dcomp (k v : E) (tg : Tg) (it : E) (cs : A) (own : List Nat)
  | rng1 (a : E) | rng2 (a b : E) | enm (a : E) | zip (a b : E)
  | fstr (as : A)
  | tv (a : E) | sq (a : E)
  | efld (f : Nat) | eisi (cs : List Nat)
  | bad
inductive A where
  | nil | cons (e : E) (as : A)
end
mutual
inductive S where
  | asg (tg : Tg) (e : E) | asg2 (i j : Nat) (a b : E)
  | setf (o : E) (f : Nat) (e : E) | seti (o i e : E)
  | augn (i : Nat) (op : Op) (e : E) | augf (o : E) (f : Nat) (op : Op) (e : E)
  | exp (e : E) | ret (e : E) | retN
  | ifS (c : E) (a b : B) | forS (tg : Tg) (it : E) (b : B) | whl (c : E) (b : B)
  | brk | cnt | pas
  | rais (c : Nat) (as : A) | tryS (b : B) (hs : Hs) | del (o i : E) | bad
inductive B where
  | nil | cons (s : S) (b : B)
inductive Hs where
  | nil | cons (c : Nat) (nm : Option Nat) (b : B) (hs : Hs)
end
structure Fn where
  np : Nat
  ns : Nat
  body : B
structure Tab where
  fn : Nat → Option Fn
  glo : Nat → Option D
  kon : Nat → List (List Nat × D)
  exf : Nat → Option (Option Nat)
  sub : Nat → Nat → Bool
abbrev QE := D → Store → Prop
abbrev QX := Exc → Store → Prop
abbrev Calls := Nat → List D → Store → QE → QX → Prop
structure K where
  nx : Env → Store → Prop
  rt : D → Store → Prop
  bk : Env → Store → Prop
  ct : Env → Store → Prop
  xc : Exc → Env → Store → Prop
abbrev line : Nat := sizeLine
def decI (i : Int) : List Nat := (Str.ofString (toString i)).cps.toList
def getV (env : Env) (i : Nat) (Q : D → Prop) : Prop := match env[i]? with
  | some (some d) => Q d
  | _ => False
def seqOf (st : Store) : D → Option (List D)
  | .tup ds => some ds
  | .ref h => match st[h]? with
    | some (.lst ds) => some ds
    | some (.fro ds) => some ds
    | _ => none
  | _ => none
def ixOf (n : Nat) (i : Int) : Option Nat := if 0 ≤ i then (if i < n then some i.toNat else none) else if -(n : Int) ≤ i then some (i + n).toNat else none
abbrev cutIx : Nat → Nat → Option Int → Nat := HT.sIx
def cutL {α : Type} (xs : List α) (lo hi : Option Int) : List α := (xs.drop (cutIx xs.length 0 lo)).take (cutIx xs.length xs.length hi - cutIx xs.length 0 lo)
def toP : Nat → Store → D → Option PyData
  | _, _, .non => some .none
  | _, _, .bl b => some (.bool b)
  | _, _, .int i => some (.int i)
  | _, _, .str x => if (x.all fun c => decide (c < 1114112)) = true then some (.str ⟨x.toArray⟩) else none
  | 0, _, _ => none
  | n + 1, st, .tup ds => (ds.mapM (toP n st)).map .tuple
  | n + 1, st, .ref h => match st[h]? with
    | some (.lst ds) => (ds.mapM (toP n st)).map .list
    | some (.fro ds) => (ds.mapM (toP n st)).map .list
    | _ => none
  | _, _, .kon _ => none
def eqQ (st : Store) : D → D → (Bool → Prop) → Prop
  | .int a, .int b, Q => Q (decide (a = b))
  | .str a, .str b, Q => Q (decide (a = b))
  | .bl a, .bl b, Q => Q (decide (a = b))
  | .non, .non, Q => Q true
  | .non, .int _, Q => Q false
  | .int _, .non, Q => Q false
  | .non, .str _, Q => Q false
  | .str _, .non, Q => Q false
  | .int _, .str _, Q => Q false
  | .str _, .int _, Q => Q false
  | x, y, Q => ∃ d e, toP 60 st x = some d ∧ toP 60 st y = some e ∧ Q (PyData.eqv d e)
def flatD : D → Bool
  | .non => true | .bl _ => true | .int _ => true | .str _ => true
  | _ => false
def eqD : D → D → Bool
  | .int a, .int b => decide (a = b)
  | .str a, .str b => decide (a = b)
  | .non, .non => true
  | .bl a, .bl b => a == b
  | .bl a, .int b => (if a then 1 else 0) == b
  | .int a, .bl b => a == (if b then 1 else 0)
  | _, _ => false
def inD (x : D) (xs : List D) : Bool := xs.any fun y => eqD y x
def keyD : D → Bool
  | .int _ => true | .str _ => true
  | _ => false
def getK (kvs : List (D × D)) (k : D) : Option D := (kvs.find? fun p => decide (p.1 = k)).map (·.2)
def putK (kvs : List (D × D)) (k v : D) : List (D × D) := if (getK kvs k).isSome then kvs.map fun p => if p.1 = k then (p.1, v) else p else kvs ++ [(k, v)]
def mergeD (ps : List (D × D)) : List (D × D) := ps.foldl (fun acc p => putK acc p.1 p.2) []
def dropK (kvs : List (D × D)) (k : D) : List (D × D) := kvs.filter fun p => decide (p.1 ≠ k)
def getC (kvs : List (List Nat × D)) (k : D) : Option D := match k with
  | .str x => (kvs.find? fun p => decide (p.1 = x)).map (·.2)
  | _ => none
def inQ (T : Tab) (st : Store) : D → D → (Bool → Prop) → Prop
  | .str a, .str b, Q => Q (!(Builtin.Str.occurrences ⟨b.toArray⟩ ⟨a.toArray⟩ 0 b.length 1).isEmpty)
  | x, .kon k, Q => T.kon k ≠ [] ∧ ∃ a, x = .str a ∧ Q (getC (T.kon k) x).isSome
  | x, .tup ds, Q => flatD x = true ∧ ds.all flatD = true ∧ Q (inD x ds)
  | x, .ref h, Q => match st[h]? with
    | some (.lst ds) => flatD x = true ∧ ds.all flatD = true ∧ Q (inD x ds)
    | some (.dic kvs) => keyD x = true ∧ Q (getK kvs x).isSome
    | _ => False
  | _, _, _ => False
def cmpQ (T : Tab) (st : Store) (o : Cm) (x y : D) (Q : Bool → Prop) : Prop :=
  match o with
  | .eq => eqQ st x y Q
  | .ne => eqQ st x y fun b => Q (!b)
  | .inn => inQ T st x y Q
  | .nin => inQ T st x y fun b => Q (!b)
  | .lt => match x, y with
    | .int a, .int b => Q (decide (a < b))
    | _, _ => False
  | .le => match x, y with
    | .int a, .int b => Q (decide (a ≤ b))
    | _, _ => False
  | .gt => match x, y with
    | .int a, .int b => Q (decide (b < a))
    | _, _ => False
  | .ge => match x, y with
    | .int a, .int b => Q (decide (b ≤ a))
    | _, _ => False
def binQ (st : Store) (o : Op) (x y : D) (Q : QE) : Prop :=
  match o, x, y with
  | .add, .int a, .int b => Q (.int (a + b)) st
  | .add, .str a, .str b => a.length + b.length ≤ line ∧ Q (.str (a ++ b)) st
  | .add, .tup a, .tup b => a.length + b.length ≤ line ∧ Q (.tup (a ++ b)) st
  | .add, .ref h, .ref g => (match st[h]?, st[g]? with
    | some (.lst a), some (.lst b) => a.length + b.length ≤ line ∧ Q (.ref st.length) (st ++ [.lst (a ++ b)])
    | _, _ => False)
  | .sub, .int a, .int b => Q (.int (a - b)) st
  | .mul, .int a, .int b => ((-(2 ^ 64) < a ∧ a < 2 ^ 64) ∨ (-(2 ^ 64) < b ∧ b < 2 ^ 64)) ∧ Q (.int (a * b)) st
  | .mul, .ref h, .int k => (match st[h]? with
    | some (.lst a) => -(2 ^ 63) ≤ k ∧ k < 2 ^ 63 ∧ a.length * k.toNat ≤ line ∧ Q (.ref st.length) (st ++ [.lst (List.replicate k.toNat a).flatten])
    | _ => False)
  | .fdiv, .int a, .int b => 0 < b ∧ b < 1073741824 ∧ Q (.int (a / b)) st
  | .mod, .int a, .int b => 0 < b ∧ Q (.int (a % b)) st
  | .pow, .int a, .int b => 0 ≤ b ∧ b ≤ 1000000 ∧ a.natAbs < 2 ^ 64 ∧ Q (.int (a ^ b.toNat)) st
  | _, _, _ => False
def truQ (st : Store) (x : D) (Q : Bool → Prop) : Prop :=
  match x with
  | .non => Q false
  | .bl b => Q b
  | .int i => Q (i != 0)
  | .str x => x.length ≤ line ∧ Q (!x.isEmpty)
  | .tup ds => Q (!ds.isEmpty)
  | .ref h => (match st[h]? with
    | some (.lst ds) => Q (!ds.isEmpty)
    | _ => False)
  | .kon _ => False
def tyOf (st : Store) : D → Option Ty
  | .bl _ => some .bool
  | .int _ => some .int
  | .str _ => some .str
  | .tup _ => some .tuple
  | .non => none
  | .kon _ => some .dict
  | .ref h => match st[h]? with
    | some (.lst _) => some .list
    | some (.fro _) => some .list
    | some (.dic _) => some .dict
    | some (.ins c _) => some (.own c)
    | none => none
def isTy (T : Tab) : Option Ty → Ty → Bool
  | none, _ => false
  | some .bool, t => decide (t = .bool) || decide (t = .int)
  | some (.own c), .own d => T.sub c d
  | some a, t => decide (a = t)
def hasTy (st : Store) : D → Bool
  | .ref h => (st[h]?).isSome
  | .kon _ => false
  | _ => true
def meT : Me → Ty
  | .split => .str | .join => .str
  | .get1 => .dict | .get2 => .dict | .setdefault => .dict
  | _ => .list
def meOk (m : Me) (st : Store) : D → Prop
  | .str _ => meT m = .str
  | .ref h => (match st[h]? with
    | some (.lst _) => meT m = .list
    | some (.dic _) => meT m = .dict
    | _ => False)
  | _ => False
def prQ (p : Pr) (ds : List D) (st : Store) (Q : QE) : Prop :=
  match p, ds with
  | .len, [.str x] => x.length ≤ line ∧ Q (.int x.length) st
  | .len, [.tup xs] => Q (.int xs.length) st
  | .len, [.ref h] => (match st[h]? with
    | some (.lst xs) => Q (.int xs.length) st
    | some (.fro xs) => Q (.int xs.length) st
    | some (.dic kvs) => Q (.int kvs.length) st
    | _ => False)
  | .int, [.int i] => Q (.int i) st
  | .int, [.bl b] => Q (.int (if b then 1 else 0)) st
  | .int, [.str x] => ∃ n, PySem.intText? ⟨x.toArray⟩ = some n ∧ x.length ≤ 640 ∧ Q (.int n) st
  | .str, [.int i] => i.natAbs.log2 < 1920 ∧ Q (.str (decI i)) st
  | .abs, [.int i] => Q (.int (if i < 0 then -i else i)) st
  | .max2, [.int i, .int j] => Q (.int (if j > i then j else i)) st
  | .min2, [.int i, .int j] => Q (.int (if j < i then j else i)) st
  | .tuple, [.tup xs] => Q (.tup xs) st
  | .tuple, [.ref h] => (match st[h]? with
    | some (.lst xs) => Q (.tup xs) st
    | some (.fro xs) => Q (.tup xs) st
    | _ => False)
  | .list, [.tup xs] => Q (.ref st.length) (st ++ [.lst xs])
  | .list, [.ref h] => (match st[h]? with
    | some (.lst xs) => Q (.ref st.length) (st ++ [.lst xs])
    | some (.fro xs) => Q (.ref st.length) (st ++ [.lst xs])
    | _ => False)
  | .any, [.ref h] => (match st[h]? with
    | some (.lst xs) => ∃ bs : List Bool, xs = bs.map D.bl ∧ Q (.bl (bs.any id)) st
    | _ => False)
  | .all, [.ref h] => (match st[h]? with
    | some (.lst xs) => ∃ bs : List Bool, xs = bs.map D.bl ∧ Q (.bl (bs.all id)) st
    | _ => False)
  | .bool, [.int i] => Q (.bl (i != 0)) st
  | .bool, [.bl b] => Q (.bl b) st
  | _, _ => False
def meQ (m : Me) (x : D) (ds : List D) (st : Store) (Q : QE) : Prop :=
  match m, x, ds with
  | .append, .ref h, [d] => (match st[h]? with
    | some (.lst xs) => xs.length < line ∧ Q .non (st.set h (.lst (xs ++ [d])))
    | _ => False)
  | .pop, .ref h, [] => (match st[h]? with
    | some (.lst xs) => ∃ d, xs[xs.length - 1]? = some d ∧ Q d (st.set h (.lst xs.dropLast))
    | _ => False)
  | .reverse, .ref h, [] => (match st[h]? with
    | some (.lst xs) => Q .non (st.set h (.lst xs.reverse))
    | _ => False)
  | .clear, .ref h, [] => (match st[h]? with
    | some (.lst _) => Q .non (st.set h (.lst []))
    | _ => False)
  | .split, .str a, [.str b] => b.length ≠ 0 ∧ a.length + 2 ≤ line ∧ Q (.ref st.length) (st ++ [.lst ((Txt.split ⟨a.toArray⟩ ⟨b.toArray⟩).map fun z => .str z.cps.toList)])
  | .join, .str a, [d] => ∃ ys : List (List Nat), seqOf st d = some (ys.map D.str) ∧ (ys.map List.length).sum + ys.length * a.length ≤ 16777216 ∧
      Q (.str (Txt.join ⟨a.toArray⟩ (ys.map fun y => ⟨y.toArray⟩)).cps.toList) st
  | .pop, .ref h, [.int i] => (match st[h]? with
    | some (.lst (x :: xs)) => i = 0 ∧ Q x (st.set h (.lst xs))
    | _ => False)
  | _, _, _ => False
def fmtQ (x : D) (Q : List Nat → Prop) : Prop :=
  match x with
  | .str y => y.length ≤ line ∧ Q y
  | .int i => i.natAbs.log2 < 1920 ∧ Q (decI i)
  | _ => False
def idxQ (T : Tab) (st : Store) (x i : D) (Q : QE) : Prop :=
  match x, i with
  | .str z, .int i => z.length ≤ line ∧ (match ixOf z.length i with
    | some j => ∃ c, z[j]? = some c ∧ Q (.str [c]) st
    | none => False)
  | .tup xs, .int i => (match ixOf xs.length i with
    | some j => ∃ c, xs[j]? = some c ∧ Q c st
    | none => False)
  | .kon k, y => ∃ v, getC (T.kon k) y = some v ∧ Q v st
  | .ref h, y => (match st[h]? with
    | some (.lst xs) => ∃ i, y = .int i ∧ (match ixOf xs.length i with
      | some j => ∃ c, xs[j]? = some c ∧ Q c st
      | none => False)
    | some (.fro xs) => ∃ i, y = .int i ∧ (match ixOf xs.length i with
      | some j => ∃ c, xs[j]? = some c ∧ Q c st
      | none => False)
    | some (.dic kvs) => keyD y = true ∧ ∃ c, getK kvs y = some c ∧ Q c st
    | _ => False)
  | _, _ => False
def partQ (d : D) (Q : Option Int → Prop) : Prop :=
  match d with
  | .int i => Q (some i)
  | .non => Q none
  | _ => False
def sliQ (st : Store) (x : D) (lo hi : Option Int) (Q : QE) : Prop :=
  match x with
  | .str z => z.length ≤ line ∧ Q (.str (cutL z lo hi)) st
  | .tup xs => Q (.tup (cutL xs lo hi)) st
  | .ref h => (match st[h]? with
    | some (.lst xs) => Q (.ref st.length) (st ++ [.lst (cutL xs lo hi)])
    | some (.fro xs) => Q (.ref st.length) (st ++ [.lst (cutL xs lo hi)])
    | _ => False)
  | _ => False
def setQ (st : Store) (x i v : D) (Q : Store → Prop) : Prop :=
  match x with
  | .ref h => (match st[h]? with
    | some (.lst xs) => ∃ k j, i = .int k ∧ ixOf xs.length k = some j ∧ Q (st.set h (.lst (xs.set j v)))
    | some (.dic kvs) => keyD i = true ∧ kvs.length < line ∧ Q (st.set h (.dic (putK kvs i v)))
    | _ => False)
  | _ => False
def pairsOf : List D → Option (List (D × D))
  | [] => some []
  | k :: v :: r => (pairsOf r).map fun ps => (k, v) :: ps
  | [_] => none
def dispQ (st : Store) (h : Nat) (ds : List D) (Q : QE) : Prop := match pairsOf ds, st[h]? with
  | some ps, some (.dic []) => (ps.all fun p => keyD p.1) = true ∧ ps.length ≤ 15 ∧ Q (.ref h) (st.set h (.dic (mergeD ps)))
  | _, _ => False
inductive J where
  | lst (h : Nat)
  | seq (ds : List D)
  | enm (h : Nat)
  | zip (h g : Nat)
def J.at (j : J) (i : Nat) (st : Store) : Option (Option D) :=
  match j with
  | .lst h => match st[h]? with
    | some (.lst ds) => some ds[i]?
    | some (.fro ds) => some ds[i]?
    | _ => none
  | .seq ds => some ds[i]?
  | .enm h => match st[h]? with
    | some (.lst ds) => some (ds[i]?.map fun d => .tup [.int i, d])
    | some (.fro ds) => some (ds[i]?.map fun d => .tup [.int i, d])
    | _ => none
  | .zip h g => match st[h]?, st[g]? with
    | some (.lst xs), some (.lst ys) => match xs[i]?, ys[i]? with
      | some x, some y => some (some (.tup [x, y]))
      | _, _ => some none
    | _, _ => none
def bindT (tg : Tg) (d : D) (env : Env) : Option Env :=
  match tg, d with
  | .nm i, d => some (env.set i (some d))
  | .tp is, .tup ds => if ds.length = is.length then some ((is.zip ds).foldl (fun e p => e.set p.1 (some p.2)) env) else none
  | _, _ => none
def forN (j : J) (tg : Tg) (body : Env → Store → K → Prop) (k : K) : Nat → Nat → Env → Store → Prop
  | 0, _, _, _ => False
  | n + 1, i, env, st => match j.at i st with
    | none => False
    | some none => k.nx env st
    | some (some d) => match bindT tg d env with
      | none => False
      | some env' => body env' st { k with nx := forN j tg body k n (i + 1), ct := forN j tg body k n (i + 1), bk := k.nx }
def whlN (c : Env → Store → (Bool → Store → Prop) → Prop) (body : Env → Store → K → Prop) (k : K) : Nat → Env → Store → Prop
  | 0, _, _ => False
  | n + 1, env, st => c env st fun b st1 => if b = true then body env st1 { k with nx := whlN c body k n, ct := whlN c body k n, bk := k.nx } else k.nx env st1
def wipeE (env : Env) : List Nat → Env
  | [] => env
  | v :: vs => (wipeE env vs).set v none
def cmpN (j : J) (tg : Tg) (tests : Env → Store → (Bool → Store → Prop) → Prop) (elt : Env → Store → QE → Prop) (h : Nat) (Q : QE) : Nat → Nat → Env → Store → Prop
  | 0, _, _, _ => False
  | n + 1, i, env, st => match j.at i st with
    | none => False
    | some none => Q (.ref h) st
    | some (some d) => match bindT tg d env with
      | none => False
      | some env' => tests env' st fun b st1 => if b = true then elt env' st1 fun y st2 => (match st2[h]? with
          | some (.lst acc) => acc.length < line ∧ cmpN j tg tests elt h Q n (i + 1) env (st2.set h (.lst (acc ++ [y])))
          | _ => False) else cmpN j tg tests elt h Q n (i + 1) env st1
def dcmN (j : J) (tg : Tg) (tests : Env → Store → (Bool → Store → Prop) → Prop) (kx vx : Env → Store → QE → Prop) (h : Nat) (Q : QE) : Nat → Nat → Env → Store → Prop
  | 0, _, _, _ => False
  | n + 1, i, env, st => match j.at i st with
    | none => False
    | some none => Q (.ref h) st
    | some (some d) => match bindT tg d env with
      | none => False
      | some env' => tests env' st fun b st1 => if b = true then kx env' st1 fun x st2 => vx env' st2 fun y st3 => (match st3[h]? with
          | some (.dic kvs) => keyD x = true ∧ kvs.length < line ∧ dcmN j tg tests kx vx h Q n (i + 1) env (st3.set h (.dic (putK kvs x y)))
          | _ => False) else dcmN j tg tests kx vx h Q n (i + 1) env st1
def fldQ (st : Store) (x : D) (f : Nat) (Q : QE) : Prop :=
  match x with
  | .ref h => (match st[h]? with
    | some (.ins _ fs) => (match fs.lookup f with
      | some d => Q d st
      | none => False)
    | _ => False)
  | _ => False
def putF (f : Nat) (d : D) : List (Nat × D) → List (Nat × D)
  | [] => [(f, d)]
  | p :: r => if p.1 = f then (f, d) :: r else p :: putF f d r
def setfQ (st : Store) (x : D) (f : Nat) (v : D) (Q : Store → Prop) : Prop :=
  match x with
  | .ref h => (match st[h]? with
    | some (.ins c fs) => fs.length < 1000 ∧ Q (st.set h (.ins c (putF f v fs)))
    | _ => False)
  | _ => False
def clsOf (st : Store) : D → Option Nat
  | .ref h => (match st[h]? with
    | some (.ins c _) => some c
    | _ => none)
  | _ => none
def walkQ (st : Store) (x : D) (R : J → Prop) : Prop :=
  match x with
  | .tup ds => R (.seq ds)
  | .str z => R (.seq (z.map fun c => .str [c]))
  | .ref h => (match st[h]? with
    | some (.lst _) => R (.lst h)
    | some (.fro _) => R (.lst h)
    | _ => False)
  | _ => False
def enmQ (st : Store) (x : D) (R : J → Prop) : Prop :=
  match x with
  | .ref h => (match st[h]? with
    | some (.lst _) => R (.enm h)
    | some (.fro _) => R (.enm h)
    | _ => False)
  | _ => False
def zipQ (st : Store) (x y : D) (R : J → Prop) : Prop :=
  match x, y with
  | .tup a, .tup b => R (.seq (List.zipWith (fun u v => .tup [u, v]) a b))
  | .str z, .tup b => R (.seq (List.zipWith (fun u v => .tup [u, v]) (z.map fun c => .str [c]) b))
  | .ref h, .ref g => (match st[h]?, st[g]? with
    | some (.lst _), some (.lst _) => R (.zip h g)
    | _, _ => False)
  | _, _ => False
def rngD (lo : Int) (n : Nat) : List D := (List.range n).map fun (i : Nat) => D.int (lo + i)
def unset (nm : Option Nat) (env : Env) : Env :=
  match nm with
  | some i => env.set i none
  | none => env
section
variable (T : Tab) (C : Calls) (hx : Option Exc)
mutual
def wpE : E → Env → Store → QE → QX → Prop
  | .var i, env, st, Q, _ => getV env i fun d => Q d st
  | .con d, _, st, Q, _ => Q d st
  | .glo g, _, st, Q, _ => (match T.glo g with
    | some d => Q d st
    | none => False)
  | .bin o a b, env, st, Q, X => wpE a env st (fun x s1 => wpE b env s1 (fun y s2 => binQ s2 o x y Q) X) X
  | .neg a, env, st, Q, X => wpE a env st (fun x s1 => (match x with
    | .int i => Q (.int (-i)) s1
    | _ => False)) X
  | .cmp o a b, env, st, Q, X => wpE a env st (fun x s1 => wpE b env s1 (fun y s2 => cmpQ T s2 o x y fun b => Q (.bl b) s2) X) X
  | .chain o o' a b c, env, st, Q, X => wpE a env st (fun x s1 => wpE b env s1 (fun y s2 => cmpQ T s2 o x y fun k => if k = true then wpE c env s2 (fun z s3 => cmpQ T s3 o' y z fun b => Q (.bl b) s3) X else Q (.bl false) s2) X) X
  | .isN a, env, st, Q, X => wpE a env st (fun x s1 => Q (.bl (decide (x = .non))) s1) X
  | .notN a, env, st, Q, X => wpE a env st (fun x s1 => Q (.bl (!decide (x = .non))) s1) X
  | .and a b, env, st, Q, X => wpE a env st (fun x s1 => (match x with
    | .bl c => if c = true then wpE b env s1 Q X else Q (.bl false) s1
    | _ => False)) X
  | .or a b, env, st, Q, X => wpE a env st (fun x s1 => (match x with
    | .bl c => if c = true then Q (.bl true) s1 else wpE b env s1 Q X
    | _ => False)) X
  | .not a, env, st, Q, X => wpE a env st (fun x s1 => (match x with
    | .bl c => Q (.bl (!c)) s1
    | _ => False)) X
  | .ife c a b, env, st, Q, X => wpT c env st (fun k s1 => if k = true then wpE a env s1 Q X else wpE b env s1 Q X) X
  | .call f as df, env, st, Q, X => hx = none ∧ wpA as env st (fun ds s1 => C f (ds ++ df) s1 Q X) X
  | .make c f as, env, st, Q, X => hx = none ∧ wpA as env st (fun ds s1 => C f (.ref s1.length :: ds) (s1 ++ [.ins c []]) (fun d s2 => d = .non ∧ Q (.ref s1.length) s2) X) X
  | .meth alts o as, env, st, Q, X => hx = none ∧ wpE o env st (fun x s1 => (match x with
    | .ref h => (match s1[h]? with
      | some (.ins c fs) => (match alts.lookup c with
        | some f => wpA as env s1 (fun ds s2 => C f (x :: ds) s2 Q X) X
        | none => False)
      | _ => False)
    | _ => False)) X
  | .fld f o, env, st, Q, X => wpE o env st (fun x s1 => fldQ s1 x f Q) X
  | .pr p as, env, st, Q, X => hx = none ∧ wpA as env st (fun ds s1 => prQ p ds s1 Q) X
  | .me m o as, env, st, Q, X => wpE o env st (fun x s1 => meOk m s1 x ∧ wpA as env s1 (fun ds s2 => meQ m x ds s2 Q) X) X
  | .isi a ts, env, st, Q, X => wpE a env st (fun x s1 => hasTy s1 x = true ∧ Q (.bl (ts.any fun t => isTy T (tyOf s1 x) t)) s1) X
  | .idx a b, env, st, Q, X => wpE a env st (fun x s1 => wpE b env s1 (fun y s2 => idxQ T s2 x y Q) X) X
  | .sli a lo hi, env, st, Q, X => wpE a env st (fun x s1 => wpE lo env s1 (fun l s2 => partQ l fun l' => wpE hi env s2 (fun u s3 => partQ u fun u' => sliQ s3 x l' u' Q) X) X) X
  | .abs0, _, st, Q, _ => Q .non st
  | .tup as, env, st, Q, X => wpA as env st (fun ds s1 => Q (.tup ds) s1) X
  | .lst as, env, st, Q, X => wpA as env st (fun ds s1 => Q (.ref s1.length) (s1 ++ [.lst ds])) X
  | .comp elt tg it cs own, env, st, Q, X => hx = none ∧ wpI it env st (fun j s1 => ∃ n, cmpN j tg (fun e s P => wpTs cs e s P) (fun e s P => wpE elt e s P (fun _ _ => False)) s1.length Q n 0 (wipeE env own) (s1 ++ [.lst []])) X
  | .dic as, env, st, Q, X => wpA as env (st ++ [.dic []]) (fun ds s1 => dispQ s1 st.length ds Q) X
  | .dcomp kx vx tg it cs own, env, st, Q, X => hx = none ∧ wpI it env st (fun j s1 => ∃ n, dcmN j tg (fun e s P => wpTs cs e s P) (fun e s P => wpE kx e s P (fun _ _ => False)) (fun e s P => wpE vx e s P (fun _ _ => False)) s1.length Q n 0 (wipeE env own) (s1 ++ [.dic []])) X
  | .fstr as, env, st, Q, X => wpF as env st [] (fun y s1 => Q (.str y) s1) X
  | .efld f, _, st, Q, _ => (match hx with
    | some e => (match e.fs.lookup f with
      | some d => Q d st
      | none => False)
    | none => False)
  | .eisi cs, _, st, Q, _ => (match hx with
    | some e => Q (.bl (cs.any fun c => T.sub e.cls c)) st
    | none => False)
  | _, _, _, _, _ => False
def wpT : E → Env → Store → (Bool → Store → Prop) → QX → Prop
  | .cmp o a b, env, st, Q, X => wpE a env st (fun x s1 => wpE b env s1 (fun y s2 => cmpQ T s2 o x y fun k => Q k s2) X) X
  | .chain o o' a b c, env, st, Q, X => wpE a env st (fun x s1 => wpE b env s1 (fun y s2 => cmpQ T s2 o x y fun k => if k = true then wpE c env s2 (fun z s3 => cmpQ T s3 o' y z fun b => Q b s3) X else Q false s2) X) X
  | .isN a, env, st, Q, X => wpE a env st (fun x s1 => Q (decide (x = .non)) s1) X
  | .notN a, env, st, Q, X => wpE a env st (fun x s1 => Q (!decide (x = .non)) s1) X
  | .and a b, env, st, Q, X => wpT a env st (fun k s1 => if k = true then wpT b env s1 Q X else Q false s1) X
  | .or a b, env, st, Q, X => wpT a env st (fun k s1 => if k = true then Q true s1 else wpT b env s1 Q X) X
  | .not a, env, st, Q, X => wpT a env st (fun k s1 => Q (!k) s1) X
  | .tv e, env, st, Q, X => wpE e env st (fun x s1 => truQ s1 x fun k => Q k s1) X
  | _, _, _, _, _ => False
def wpA : A → Env → Store → (List D → Store → Prop) → QX → Prop
  | .nil, _, st, Q, _ => Q [] st
  | .cons e as, env, st, Q, X => wpE e env st (fun d s1 => wpA as env s1 (fun ds s2 => Q (d :: ds) s2) X) X
def wpF : A → Env → Store → List Nat → (List Nat → Store → Prop) → QX → Prop
  | .nil, _, st, acc, Q, _ => Q acc st
  | .cons e as, env, st, acc, Q, X => wpE e env st (fun d s1 => fmtQ d fun y => (acc ++ y).length ≤ line ∧ wpF as env s1 (acc ++ y) Q X) X
def wpTs : A → Env → Store → (Bool → Store → Prop) → Prop
  | .nil, _, st, Q => Q true st
  | .cons e .nil, env, st, Q => wpT e env st Q (fun _ _ => False)
  | _, _, _, _ => False
def wpI : E → Env → Store → (J → Store → Prop) → QX → Prop
  | .rng1 a, env, st, R, X => wpE a env st (fun x s1 => (match x with
    | .int n => -(2 ^ 62) ≤ n ∧ n < 2 ^ 62 ∧ R (.seq (rngD 0 n.toNat)) s1
    | _ => False)) X
  | .rng2 a b, env, st, R, X => wpE a env st (fun x s1 => wpE b env s1 (fun y s2 => (match x, y with
    | .int m, .int n => (-(2 ^ 62) ≤ m ∧ m < 2 ^ 62 ∧ -(2 ^ 62) ≤ n ∧ n < 2 ^ 62) ∧ R (.seq (rngD m (n - m).toNat)) s2
    | _, _ => False)) X) X
  | .enm a, env, st, R, X => wpE a env st (fun x s1 => enmQ s1 x fun j => R j s1) X
  | .zip a b, env, st, R, X => wpE a env st (fun x s1 => wpE b env s1 (fun y s2 => zipQ s2 x y fun j => R j s2) X) X
  | .sq e, env, st, R, X => wpE e env st (fun x s1 => walkQ s1 x fun j => R j s1) X
  | _, _, _, _, _ => False
end
mutual
def wpS : Option Exc → S → Env → Store → K → Prop
  | hx, .asg tg e, env, st, k => (match tg with
    | .tp _ => hx = none
    | _ => True) ∧ wpE T C hx e env st (fun d s1 => (match bindT tg d env with
    | some env' => k.nx env' s1
    | none => False)) fun x s1 => k.xc x env s1
  | hx, .asg2 i j a b, env, st, k => hx = none ∧ wpE T C hx a env st (fun x s1 => wpE T C hx b env s1 (fun y s2 => k.nx ((env.set i (some x)).set j (some y)) s2) fun x s1 => k.xc x env s1) fun x s1 => k.xc x env s1
  | hx, .setf o f e, env, st, k => wpE T C hx e env st (fun v s1 => wpE T C hx o env s1 (fun x s2 => setfQ s2 x f v fun s3 => k.nx env s3) fun x s1 => k.xc x env s1) fun x s1 => k.xc x env s1
  | hx, .seti o i e, env, st, k => wpE T C hx e env st (fun v s1 => wpE T C hx o env s1 (fun x s2 => wpE T C hx i env s2 (fun y s3 => setQ s3 x y v fun s4 => k.nx env s4) fun x s1 => k.xc x env s1) fun x s1 => k.xc x env s1) fun x s1 => k.xc x env s1
  | hx, .augn i op e, env, st, k => getV env i fun x => wpE T C hx e env st (fun y s1 => (match op, x, y with
    | .add, .int a, .int b => k.nx (env.set i (some (.int (a + b)))) s1
    | .sub, .int a, .int b => k.nx (env.set i (some (.int (a - b)))) s1
    | _, _, _ => False)) fun x s1 => k.xc x env s1
  | hx, .augf o f op e, env, st, k => wpE T C hx o env st (fun x s1 => fldQ s1 x f fun v s1 => wpE T C hx e env s1 (fun y s2 => (match op, v, y with
    | .add, .int a, .int b => clsOf s2 x = clsOf s1 x ∧ setfQ s2 x f (.int (a + b)) fun s3 => k.nx env s3
    | .sub, .int a, .int b => clsOf s2 x = clsOf s1 x ∧ setfQ s2 x f (.int (a - b)) fun s3 => k.nx env s3
    | _, _, _ => False)) fun x s1 => k.xc x env s1) fun x s1 => k.xc x env s1
  | hx, .exp e, env, st, k => wpE T C hx e env st (fun _ s1 => k.nx env s1) fun x s1 => k.xc x env s1
  | hx, .ret e, env, st, k => wpE T C hx e env st (fun d s1 => k.rt d s1) fun x s1 => k.xc x env s1
  | _, .retN, _, st, k => k.rt .non st
  | hx, .ifS c a b, env, st, k => wpT T C hx c env st (fun t s1 => if t = true then wpB hx a env s1 k else wpB hx b env s1 k) fun x s1 => k.xc x env s1
  | hx, .forS tg it b, env, st, k => hx = none ∧ wpI T C hx it env st (fun j s1 => ∃ n, forN j tg (fun e s k' => wpB hx b e s k') k n 0 env s1) fun x s1 => k.xc x env s1
  | hx, .whl c b, env, st, k => hx = none ∧ ∃ n, whlN (fun e s P => wpT T C hx c e s P fun x s1 => k.xc x e s1) (fun e s k' => wpB hx b e s k') k n env st
  | _, .brk, env, st, k => k.bk env st
  | _, .cnt, env, st, k => k.ct env st
  | _, .pas, env, st, k => k.nx env st
  | hx, .rais c as, env, st, k => hx = none ∧ (match T.exf c, as with
    | some none, .nil => k.xc ⟨c, []⟩ env st
    | some (some f), .cons e .nil => wpE T C hx e env st (fun d s1 => k.xc ⟨c, [(f, d)]⟩ env s1) fun x s1 => k.xc x env s1
    | _, _ => False)
  | hx, .tryS b hs, env, st, k => hx = none ∧ wpB hx b env st { k with xc := fun e env' s' => wpH hs e env' s' k }
  | _, _, _, _, _ => False
def wpB : Option Exc → B → Env → Store → K → Prop
  | _, .nil, env, st, k => k.nx env st
  | hx, .cons s b, env, st, k => wpS hx s env st { k with nx := fun e s' => wpB hx b e s' k }
def wpH : Hs → Exc → Env → Store → K → Prop
  | .nil, e, env, st, k => k.xc e env st
  | .cons c nm b hs, e, env, st, k => if T.sub e.cls c = true then wpB (some e) b (unset nm env) st ⟨fun e' s' => k.nx (unset nm e') s', k.rt, fun _ _ => False, fun _ _ => False, fun _ _ _ => False⟩ else wpH hs e env st k
end
end
def Call (T : Tab) : Nat → Calls
  | 0, _, _, _, _, _ => False
  | n + 1, f, ds, st, Q, X => match T.fn f with
    | none => False
    | some fn => ds.length = fn.np ∧ wpB T (Call T n) none fn.body (ds.map some ++ List.replicate (fn.ns - fn.np) none) st ⟨fun _ s => Q .non s, Q, fun _ _ => False, fun _ _ => False, fun e _ s => X e s⟩
end Y
set_option linter.all false
set_option maxHeartbeats 4000000
namespace Y
open PySem
theorem getV_mono {env : Env} {i : Nat} {Q Q' : D → Prop} (h : ∀ d, Q d → Q' d) (q : getV env i Q) : getV env i Q' := by
  unfold getV at q ⊢
  split at q
  · exact h _ q
  · exact q.elim
theorem eqQ_mono {st : Store} {x y : D} {Q Q' : Bool → Prop} (h : ∀ b, Q b → Q' b) (q : eqQ st x y Q) : eqQ st x y Q' := by
  unfold eqQ at q ⊢
  split at q <;> first
    | exact h _ q
    | (obtain ⟨d, e, h1, h2, h3⟩ := q; exact ⟨d, e, h1, h2, h _ h3⟩)
theorem inQ_mono {T : Tab} {st : Store} {x y : D} {Q Q' : Bool → Prop} (h : ∀ b, Q b → Q' b) (q : inQ T st x y Q) : inQ T st x y Q' := by
  unfold inQ at q ⊢
  split at q
  · exact h _ q
  · obtain ⟨h0, a, e, q⟩ := q
    exact ⟨h0, a, e, h _ q⟩
  · exact ⟨q.1, q.2.1, h _ q.2.2⟩
  · split at q
    · exact ⟨q.1, q.2.1, h _ q.2.2⟩
    · exact ⟨q.1, h _ q.2⟩
    · exact q.elim
  · exact q.elim
theorem cmpQ_mono {T : Tab} {st : Store} {o : Cm} {x y : D} {Q Q' : Bool → Prop} (h : ∀ b, Q b → Q' b) (q : cmpQ T st o x y Q) : cmpQ T st o x y Q' := by
  cases o
  · exact eqQ_mono (x := x) (y := y) h q
  · exact eqQ_mono (x := x) (y := y) (fun b => h _) q
  all_goals first
    | exact inQ_mono (x := x) (y := y) h q
    | exact inQ_mono (x := x) (y := y) (fun b => h _) q
    | (unfold cmpQ at q ⊢
       dsimp only at q ⊢
       split at q
       · exact h _ q
       · exact q.elim)
theorem binQ_mono {st : Store} {o : Op} {x y : D} {Q Q' : QE} (h : ∀ d s, Q d s → Q' d s) (q : binQ st o x y Q) : binQ st o x y Q' := by
  unfold binQ at q ⊢
  split at q
  all_goals first
    | exact h _ _ q
    | exact ⟨q.1, h _ _ q.2⟩
    | exact ⟨q.1, q.2.1, h _ _ q.2.2⟩
    | exact ⟨q.1, q.2.1, q.2.2.1, h _ _ q.2.2.2⟩
    | (split at q
       · exact ⟨q.1, h _ _ q.2⟩
       · exact q.elim)
    | (split at q
       · exact ⟨q.1, q.2.1, q.2.2.1, h _ _ q.2.2.2⟩
       · exact q.elim)
    | exact q.elim
theorem truQ_mono {st : Store} {x : D} {Q Q' : Bool → Prop} (h : ∀ b, Q b → Q' b) (q : truQ st x Q) : truQ st x Q' := by
  unfold truQ at q ⊢
  split at q
  all_goals first
    | exact h _ q
    | exact ⟨q.1, h _ q.2⟩
    | (split at q
       · exact h _ q
       · exact q.elim)
    | exact q.elim
theorem prQ_mono {p : Pr} {ds : List D} {st : Store} {Q Q' : QE} (h : ∀ d s, Q d s → Q' d s) (q : prQ p ds st Q) : prQ p ds st Q' := by
  unfold prQ at q ⊢
  split at q
  all_goals first
    | exact h _ _ q
    | exact ⟨q.1, h _ _ q.2⟩
    | (obtain ⟨n, h1, h2, h3⟩ := q; exact ⟨n, h1, h2, h _ _ h3⟩)
    | (split at q <;> first
       | exact h _ _ q
       | (obtain ⟨n, h1, h2⟩ := q; exact ⟨n, h1, h _ _ h2⟩)
       | exact q.elim)
    | exact q.elim
theorem meQ_mono {m : Me} {x : D} {ds : List D} {st : Store} {Q Q' : QE} (h : ∀ d s, Q d s → Q' d s) (q : meQ m x ds st Q) : meQ m x ds st Q' := by
  unfold meQ at q ⊢
  split at q
  all_goals first
    | exact h _ _ q
    | exact ⟨q.1, h _ _ q.2⟩
    | exact ⟨q.1, q.2.1, h _ _ q.2.2⟩
    | (obtain ⟨n, h1, h2, h3⟩ := q; exact ⟨n, h1, h2, h _ _ h3⟩)
    | (split at q <;> first
       | exact h _ _ q
       | exact ⟨q.1, h _ _ q.2⟩
       | (obtain ⟨n, h1, h2⟩ := q; exact ⟨n, h1, h _ _ h2⟩)
       | exact q.elim)
    | exact q.elim
theorem fmtQ_mono {x : D} {Q Q' : List Nat → Prop} (h : ∀ b, Q b → Q' b) (q : fmtQ x Q) : fmtQ x Q' := by
  unfold fmtQ at q ⊢
  split at q
  · exact ⟨q.1, h _ q.2⟩
  · exact ⟨q.1, h _ q.2⟩
  · exact q.elim
theorem idxQ_mono {T : Tab} {st : Store} {x i : D} {Q Q' : QE} (h : ∀ d s, Q d s → Q' d s) (q : idxQ T st x i Q) : idxQ T st x i Q' := by
  unfold idxQ at q ⊢
  split at q
  · refine ⟨q.1, ?_⟩
    have q2 := q.2
    split at q2
    · obtain ⟨c, h1, h2⟩ := q2
      exact ⟨c, h1, h _ _ h2⟩
    · exact q2.elim
  · split at q
    · obtain ⟨c, h1, h2⟩ := q
      exact ⟨c, h1, h _ _ h2⟩
    · exact q.elim
  · obtain ⟨v, h1, h2⟩ := q
    exact ⟨v, h1, h _ _ h2⟩
  · split at q
    · obtain ⟨i, e, q⟩ := q
      refine ⟨i, e, ?_⟩
      split at q
      · obtain ⟨c, h1, h2⟩ := q
        exact ⟨c, h1, h _ _ h2⟩
      · exact q.elim
    · obtain ⟨i, e, q⟩ := q
      refine ⟨i, e, ?_⟩
      split at q
      · obtain ⟨c, h1, h2⟩ := q
        exact ⟨c, h1, h _ _ h2⟩
      · exact q.elim
    · obtain ⟨q0, c, h1, h2⟩ := q
      exact ⟨q0, c, h1, h _ _ h2⟩
    · exact q.elim
  · exact q.elim
theorem dispQ_mono {st : Store} {i : Nat} {ds : List D} {Q Q' : QE} (h : ∀ d s, Q d s → Q' d s) (q : dispQ st i ds Q) : dispQ st i ds Q' := by
  unfold dispQ at q ⊢
  split at q
  · exact ⟨q.1, q.2.1, h _ _ q.2.2⟩
  · exact q.elim
theorem partQ_mono {d : D} {Q Q' : Option Int → Prop} (h : ∀ b, Q b → Q' b) (q : partQ d Q) : partQ d Q' := by
  unfold partQ at q ⊢
  split at q <;> first
    | exact h _ q
    | exact q.elim
theorem sliQ_mono {st : Store} {x : D} {lo hi : Option Int} {Q Q' : QE} (h : ∀ d s, Q d s → Q' d s) (q : sliQ st x lo hi Q) : sliQ st x lo hi Q' := by
  unfold sliQ at q ⊢
  split at q
  · exact ⟨q.1, h _ _ q.2⟩
  · exact h _ _ q
  · split at q <;> first
    | exact h _ _ q
    | exact q.elim
  · exact q.elim
theorem setQ_mono {st : Store} {x i v : D} {Q Q' : Store → Prop} (h : ∀ s, Q s → Q' s) (q : setQ st x i v Q) : setQ st x i v Q' := by
  unfold setQ at q ⊢
  split at q
  · split at q
    · obtain ⟨k, j, h1, h2, h3⟩ := q
      exact ⟨k, j, h1, h2, h _ h3⟩
    · exact ⟨q.1, q.2.1, h _ q.2.2⟩
    · exact q.elim
  · exact q.elim
theorem fldQ_mono {st : Store} {x : D} {f : Nat} {Q Q' : QE} (h : ∀ d s, Q d s → Q' d s) (q : fldQ st x f Q) : fldQ st x f Q' := by
  unfold fldQ at q ⊢
  split at q
  · split at q
    · split at q
      · exact h _ _ q
      · exact q.elim
    · exact q.elim
  · exact q.elim
theorem setfQ_mono {st : Store} {x : D} {f : Nat} {v : D} {Q Q' : Store → Prop} (h : ∀ s, Q s → Q' s) (q : setfQ st x f v Q) : setfQ st x f v Q' := by
  unfold setfQ at q ⊢
  split at q
  · split at q
    · exact ⟨q.1, h _ q.2⟩
    · exact q.elim
  · exact q.elim
theorem walkQ_mono {st : Store} {x : D} {R R' : J → Prop} (h : ∀ j, R j → R' j) (q : walkQ st x R) : walkQ st x R' := by
  unfold walkQ at q ⊢
  split at q
  · exact h _ q
  · exact h _ q
  · split at q <;> first
    | exact h _ q
    | exact q.elim
  · exact q.elim
theorem enmQ_mono {st : Store} {x : D} {R R' : J → Prop} (h : ∀ j, R j → R' j) (q : enmQ st x R) : enmQ st x R' := by
  unfold enmQ at q ⊢
  split at q
  · split at q <;> first
    | exact h _ q
    | exact q.elim
  · exact q.elim
theorem zipQ_mono {st : Store} {x y : D} {R R' : J → Prop} (h : ∀ j, R j → R' j) (q : zipQ st x y R) : zipQ st x y R' := by
  unfold zipQ at q ⊢
  split at q
  · exact h _ q
  · exact h _ q
  · split at q <;> first
    | exact h _ q
    | exact q.elim
  · exact q.elim
structure K.Le (k k' : K) : Prop where
  nx : ∀ e s, k.nx e s → k'.nx e s
  rt : ∀ d s, k.rt d s → k'.rt d s
  bk : ∀ e s, k.bk e s → k'.bk e s
  ct : ∀ e s, k.ct e s → k'.ct e s
  xc : ∀ x e s, k.xc x e s → k'.xc x e s
theorem K.Le.refl (k : K) : k.Le k := ⟨fun _ _ h => h, fun _ _ h => h, fun _ _ h => h, fun _ _ h => h, fun _ _ _ h => h⟩
theorem forN_mono {j : J} {tg : Tg} {body body' : Env → Store → K → Prop} {k k' : K} (hb : ∀ e s q q', q.Le q' → body e s q → body' e s q') (hk : k.Le k') : ∀ (n i : Nat) (env : Env) (st : Store), forN j tg body k n i env st → forN j tg body' k' n i env st
  | 0, _, _, _, h => h.elim
  | n + 1, i, env, st, h => by
    unfold forN at h ⊢
    split at h
    · exact h.elim
    · exact hk.nx _ _ h
    · split at h
      · exact h.elim
      · refine hb _ _ _ _ ?_ h
        exact ⟨fun e s => forN_mono hb hk n (i + 1) e s, hk.rt, hk.nx, fun e s => forN_mono hb hk n (i + 1) e s, hk.xc⟩
theorem whlN_mono {c c' : Env → Store → (Bool → Store → Prop) → Prop} {body body' : Env → Store → K → Prop} {k k' : K} (hc : ∀ e s P P', (∀ b s, P b s → P' b s) → c e s P → c' e s P') (hb : ∀ e s q q', q.Le q' → body e s q → body' e s q') (hk : k.Le k') :
    ∀ (n : Nat) (env : Env) (st : Store), whlN c body k n env st → whlN c' body' k' n env st
  | 0, _, _, h => h.elim
  | n + 1, env, st, h => by
    unfold whlN at h ⊢
    refine hc _ _ _ _ (fun b s q => ?_) h
    split at q
    · rename_i e
      rw [if_pos e]
      refine hb _ _ _ _ ?_ q
      exact ⟨fun e s => whlN_mono hc hb hk n e s, hk.rt, hk.nx, fun e s => whlN_mono hc hb hk n e s, hk.xc⟩
    · rename_i e
      rw [if_neg e]
      exact hk.nx _ _ q
theorem cmpN_mono {j : J} {tg : Tg} {tests tests' : Env → Store → (Bool → Store → Prop) → Prop} {elt elt' : Env → Store → QE → Prop} {h : Nat} {Q Q' : QE} (ht : ∀ e s P P', (∀ b s, P b s → P' b s) → tests e s P → tests' e s P')
    (he : ∀ e s P P', (∀ b s, P b s → P' b s) → elt e s P → elt' e s P') (hQ : ∀ d s, Q d s → Q' d s) : ∀ (n i : Nat) (env : Env) (st : Store), cmpN j tg tests elt h Q n i env st → cmpN j tg tests' elt' h Q' n i env st
  | 0, _, _, _, q => q.elim
  | n + 1, i, env, st, q => by
    unfold cmpN at q ⊢
    split at q
    · exact q.elim
    · exact hQ _ _ q
    · split at q
      · exact q.elim
      · refine ht _ _ _ _ (fun b s z => ?_) q
        cases b with
        | false =>
          rw [if_neg Bool.false_ne_true] at z ⊢
          exact cmpN_mono ht he hQ n (i + 1) _ _ z
        | true =>
          rw [if_pos rfl] at z ⊢
          refine he _ _ _ _ (fun y s2 z2 => ?_) z
          split at z2
          · exact ⟨z2.1, cmpN_mono ht he hQ n (i + 1) _ _ z2.2⟩
          · exact z2.elim
theorem dcmN_mono {j : J} {tg : Tg} {tests tests' : Env → Store → (Bool → Store → Prop) → Prop} {kx kx' vx vx' : Env → Store → QE → Prop} {h : Nat} {Q Q' : QE} (ht : ∀ e s P P', (∀ b s, P b s → P' b s) → tests e s P → tests' e s P')
    (hk : ∀ e s P P', (∀ b s, P b s → P' b s) → kx e s P → kx' e s P') (hv : ∀ e s P P', (∀ b s, P b s → P' b s) → vx e s P → vx' e s P') (hQ : ∀ d s, Q d s → Q' d s) : ∀ (n i : Nat) (env : Env) (st : Store), dcmN j tg tests kx vx h Q n i env st → dcmN j tg tests' kx' vx' h Q' n i env st
  | 0, _, _, _, q => q.elim
  | n + 1, i, env, st, q => by
    unfold dcmN at q ⊢
    split at q
    · exact q.elim
    · exact hQ _ _ q
    · split at q
      · exact q.elim
      · refine ht _ _ _ _ (fun b s z => ?_) q
        cases b with
        | false =>
          rw [if_neg Bool.false_ne_true] at z ⊢
          exact dcmN_mono ht hk hv hQ n (i + 1) _ _ z
        | true =>
          rw [if_pos rfl] at z ⊢
          refine hk _ _ _ _ (fun x s2 z2 => hv _ _ _ _ (fun y s3 z3 => ?_) z2) z
          split at z3
          · exact ⟨z3.1, z3.2.1, dcmN_mono ht hk hv hQ n (i + 1) _ _ z3.2.2⟩
          · exact z3.elim
def MonoC (C : Calls) : Prop := ∀ (f : Nat) (ds : List D) (st : Store) (Q Q' : QE) (X X' : QX), (∀ d s, Q d s → Q' d s) → (∀ x s, X x s → X' x s) → C f ds st Q X → C f ds st Q' X'
section
variable {T : Tab} {C : Calls} {hx : Option Exc} (hC : MonoC C)
include hC
mutual
theorem wpE_mono : ∀ (e : E) (env : Env) (st : Store) (Q Q' : QE) (X X' : QX), (∀ d s, Q d s → Q' d s) → (∀ x s, X x s → X' x s) → wpE T C hx e env st Q X → wpE T C hx e env st Q' X'
  | .var i, env, st, Q, Q', X, X', hQ, hX, h => getV_mono (fun d => hQ d st) h
  | .con d, env, st, Q, Q', X, X', hQ, hX, h => hQ _ _ h
  | .glo g, env, st, Q, Q', X, X', hQ, hX, h => by
    unfold wpE at h ⊢
    split at h
    · exact hQ _ _ h
    · exact h.elim
  | .bin o a b, env, st, Q, Q', X, X', hQ, hX, h => wpE_mono a env st _ _ _ _ (fun x s1 h1 => wpE_mono b env s1 _ _ _ _ (fun y s2 h2 => binQ_mono hQ h2) hX h1) hX h
  | .neg a, env, st, Q, Q', X, X', hQ, hX, h => wpE_mono a env st _ _ _ _ (fun x s1 h1 => by
    split at h1
    · exact hQ _ _ h1
    · exact h1.elim) hX h
  | .cmp o a b, env, st, Q, Q', X, X', hQ, hX, h => wpE_mono a env st _ _ _ _ (fun x s1 h1 => wpE_mono b env s1 _ _ _ _ (fun y s2 h2 => cmpQ_mono (fun b => hQ _ _) h2) hX h1) hX h
  | .chain o o' a b c, env, st, Q, Q', X, X', hQ, hX, h => wpE_mono a env st _ _ _ _ (fun x s1 h1 => wpE_mono b env s1 _ _ _ _ (fun y s2 h2 => cmpQ_mono (fun k h3 => by
    cases k with
    | true =>
      rw [if_pos rfl] at h3 ⊢
      exact wpE_mono c env s2 _ _ _ _ (fun z s3 h4 => cmpQ_mono (fun b => hQ _ _) h4) hX h3
    | false => exact hQ _ _ h3) h2) hX h1) hX h
  | .isN a, env, st, Q, Q', X, X', hQ, hX, h => wpE_mono a env st _ _ _ _ (fun x s1 h1 => hQ _ _ h1) hX h
  | .notN a, env, st, Q, Q', X, X', hQ, hX, h => wpE_mono a env st _ _ _ _ (fun x s1 h1 => hQ _ _ h1) hX h
  | .and a b, env, st, Q, Q', X, X', hQ, hX, h => wpE_mono a env st _ _ _ _ (fun x s1 h1 => by
    split at h1
    · rename_i c
      cases c with
      | true => exact wpE_mono b env s1 _ _ _ _ hQ hX h1
      | false => exact hQ _ _ h1
    · exact h1.elim) hX h
  | .or a b, env, st, Q, Q', X, X', hQ, hX, h => wpE_mono a env st _ _ _ _ (fun x s1 h1 => by
    split at h1
    · rename_i c
      cases c with
      | true => exact hQ _ _ h1
      | false => exact wpE_mono b env s1 _ _ _ _ hQ hX h1
    · exact h1.elim) hX h
  | .not a, env, st, Q, Q', X, X', hQ, hX, h => wpE_mono a env st _ _ _ _ (fun x s1 h1 => by
    split at h1
    · exact hQ _ _ h1
    · exact h1.elim) hX h
  | .ife c a b, env, st, Q, Q', X, X', hQ, hX, h => wpT_mono c env st _ _ _ _ (fun k s1 h1 => by
    cases k with
    | true => exact wpE_mono a env s1 _ _ _ _ hQ hX h1
    | false => exact wpE_mono b env s1 _ _ _ _ hQ hX h1) hX h
  | .call f as df, env, st, Q, Q', X, X', hQ, hX, h => ⟨h.1, wpA_mono as env st _ _ _ _ (fun ds s1 h1 => hC _ _ _ _ _ _ _ hQ hX h1) hX h.2⟩
  | .make c f as, env, st, Q, Q', X, X', hQ, hX, h => ⟨h.1, wpA_mono as env st _ _ _ _ (fun ds s1 h1 => hC _ _ _ _ _ _ _ (fun d s2 h2 => ⟨h2.1, hQ _ _ h2.2⟩) hX h1) hX h.2⟩
  | .meth alts o as, env, st, Q, Q', X, X', hQ, hX, h => ⟨h.1, wpE_mono o env st _ _ _ _ (fun x s1 h1 => by
    split at h1
    · split at h1
      · split at h1
        · exact wpA_mono as env s1 _ _ _ _ (fun ds s2 h2 => hC _ _ _ _ _ _ _ hQ hX h2) hX h1
        · exact h1.elim
      · exact h1.elim
    · exact h1.elim) hX h.2⟩
  | .fld f o, env, st, Q, Q', X, X', hQ, hX, h => wpE_mono o env st _ _ _ _ (fun x s1 h1 => fldQ_mono hQ h1) hX h
  | .pr p as, env, st, Q, Q', X, X', hQ, hX, h => ⟨h.1, wpA_mono as env st _ _ _ _ (fun ds s1 h1 => prQ_mono hQ h1) hX h.2⟩
  | .me m o as, env, st, Q, Q', X, X', hQ, hX, h => wpE_mono o env st _ _ _ _ (fun x s1 h1 => ⟨h1.1, wpA_mono as env s1 _ _ _ _ (fun ds s2 h2 => meQ_mono hQ h2) hX h1.2⟩) hX h
  | .isi a ts, env, st, Q, Q', X, X', hQ, hX, h => wpE_mono a env st _ _ _ _ (fun x s1 h1 => ⟨h1.1, hQ _ _ h1.2⟩) hX h
  | .idx a b, env, st, Q, Q', X, X', hQ, hX, h => wpE_mono a env st _ _ _ _ (fun x s1 h1 => wpE_mono b env s1 _ _ _ _ (fun y s2 h2 => idxQ_mono hQ h2) hX h1) hX h
  | .sli a lo hi, env, st, Q, Q', X, X', hQ, hX, h => wpE_mono a env st _ _ _ _ (fun x s1 h1 => wpE_mono lo env s1 _ _ _ _ (fun l s2 h2 => partQ_mono (fun l' h3 => wpE_mono hi env s2 _ _ _ _ (fun u s3 h4 => partQ_mono (fun u' h5 => sliQ_mono hQ h5) h4) hX h3) h2) hX h1) hX h
  | .abs0, env, st, Q, Q', X, X', hQ, hX, h => hQ _ _ h
  | .tup as, env, st, Q, Q', X, X', hQ, hX, h => wpA_mono as env st _ _ _ _ (fun ds s1 h1 => hQ _ _ h1) hX h
  | .lst as, env, st, Q, Q', X, X', hQ, hX, h => wpA_mono as env st _ _ _ _ (fun ds s1 h1 => hQ _ _ h1) hX h
  | .dic as, env, st, Q, Q', X, X', hQ, hX, h => wpA_mono as env _ _ _ _ _ (fun ds s1 h1 => dispQ_mono hQ h1) hX h
  | .comp elt tg it cs own, env, st, Q, Q', X, X', hQ, hX, h => ⟨h.1, wpI_mono it env st _ _ _ _ (fun j s1 ⟨n, h1⟩ => ⟨n, cmpN_mono (fun e s P P' hP => wpTs_mono cs e s P P' hP) (fun e s P P' hP => wpE_mono elt e s P P' _ _ hP fun _ _ z => z) hQ n 0 _ _ h1⟩) hX h.2⟩
  | .dcomp kx vx tg it cs own, env, st, Q, Q', X, X', hQ, hX, h => ⟨h.1, wpI_mono it env st _ _ _ _ (fun j s1 ⟨n, h1⟩ => ⟨n, dcmN_mono (fun e s P P' hP => wpTs_mono cs e s P P' hP) (fun e s P P' hP => wpE_mono kx e s P P' _ _ hP fun _ _ z => z) (fun e s P P' hP => wpE_mono vx e s P P' _ _ hP fun _ _ z => z) hQ n 0 _ _ h1⟩) hX h.2⟩
  | .fstr as, env, st, Q, Q', X, X', hQ, hX, h => wpF_mono as env st _ _ _ _ _ (fun y s1 => hQ _ _) hX h
  | .efld f, env, st, Q, Q', X, X', hQ, hX, h => by
    unfold wpE at h ⊢
    split at h
    · split at h
      · exact hQ _ _ h
      · exact h.elim
    · exact h.elim
  | .eisi cs, env, st, Q, Q', X, X', hQ, hX, h => by
    unfold wpE at h ⊢
    split at h
    · exact hQ _ _ h
    · exact h.elim
  | .rng1 _, _, _, _, _, _, _, _, _, h => h.elim
  | .rng2 _ _, _, _, _, _, _, _, _, _, h => h.elim
  | .enm _, _, _, _, _, _, _, _, _, h => h.elim
  | .zip _ _, _, _, _, _, _, _, _, _, h => h.elim
  | .tv _, _, _, _, _, _, _, _, _, h => h.elim
  | .sq _, _, _, _, _, _, _, _, _, h => h.elim
  | .bad, _, _, _, _, _, _, _, _, h => h.elim
theorem wpT_mono : ∀ (e : E) (env : Env) (st : Store) (Q Q' : Bool → Store → Prop) (X X' : QX), (∀ d s, Q d s → Q' d s) → (∀ x s, X x s → X' x s) → wpT T C hx e env st Q X → wpT T C hx e env st Q' X'
  | .cmp o a b, env, st, Q, Q', X, X', hQ, hX, h => wpE_mono a env st _ _ _ _ (fun x s1 h1 => wpE_mono b env s1 _ _ _ _ (fun y s2 h2 => cmpQ_mono (fun b => hQ _ _) h2) hX h1) hX h
  | .chain o o' a b c, env, st, Q, Q', X, X', hQ, hX, h => wpE_mono a env st _ _ _ _ (fun x s1 h1 => wpE_mono b env s1 _ _ _ _ (fun y s2 h2 => cmpQ_mono (fun k h3 => by
    cases k with
    | true =>
      rw [if_pos rfl] at h3 ⊢
      exact wpE_mono c env s2 _ _ _ _ (fun z s3 h4 => cmpQ_mono (fun b => hQ _ _) h4) hX h3
    | false => exact hQ _ _ h3) h2) hX h1) hX h
  | .isN a, env, st, Q, Q', X, X', hQ, hX, h => wpE_mono a env st _ _ _ _ (fun x s1 h1 => hQ _ _ h1) hX h
  | .notN a, env, st, Q, Q', X, X', hQ, hX, h => wpE_mono a env st _ _ _ _ (fun x s1 h1 => hQ _ _ h1) hX h
  | .and a b, env, st, Q, Q', X, X', hQ, hX, h => wpT_mono a env st _ _ _ _ (fun k s1 h1 => by
    cases k with
    | true => exact wpT_mono b env s1 _ _ _ _ hQ hX h1
    | false => exact hQ _ _ h1) hX h
  | .or a b, env, st, Q, Q', X, X', hQ, hX, h => wpT_mono a env st _ _ _ _ (fun k s1 h1 => by
    cases k with
    | true => exact hQ _ _ h1
    | false => exact wpT_mono b env s1 _ _ _ _ hQ hX h1) hX h
  | .not a, env, st, Q, Q', X, X', hQ, hX, h => wpT_mono a env st _ _ _ _ (fun k s1 h1 => hQ _ _ h1) hX h
  | .tv a, env, st, Q, Q', X, X', hQ, hX, h => wpE_mono a env st _ _ _ _ (fun x s1 h1 => truQ_mono (fun k => hQ _ _) h1) hX h
  | .var _, _, _, _, _, _, _, _, _, h => h.elim
  | .con _, _, _, _, _, _, _, _, _, h => h.elim
  | .glo _, _, _, _, _, _, _, _, _, h => h.elim
  | .bin _ _ _, _, _, _, _, _, _, _, _, h => h.elim
  | .neg _, _, _, _, _, _, _, _, _, h => h.elim
  | .ife _ _ _, _, _, _, _, _, _, _, _, h => h.elim
  | .call _ _ _, _, _, _, _, _, _, _, _, h => h.elim
  | .make _ _ _, _, _, _, _, _, _, _, _, h => h.elim
  | .meth _ _ _, _, _, _, _, _, _, _, _, h => h.elim
  | .fld _ _, _, _, _, _, _, _, _, _, h => h.elim
  | .pr _ _, _, _, _, _, _, _, _, _, h => h.elim
  | .me _ _ _, _, _, _, _, _, _, _, _, h => h.elim
  | .isi _ _, _, _, _, _, _, _, _, _, h => h.elim
  | .idx _ _, _, _, _, _, _, _, _, _, h => h.elim
  | .sli _ _ _, _, _, _, _, _, _, _, _, h => h.elim
  | .abs0, _, _, _, _, _, _, _, _, h => h.elim
  | .tup _, _, _, _, _, _, _, _, _, h => h.elim
  | .lst _, _, _, _, _, _, _, _, _, h => h.elim
  | .dic _, _, _, _, _, _, _, _, _, h => h.elim
  | .comp _ _ _ _ _, _, _, _, _, _, _, _, _, h => h.elim
  | .dcomp _ _ _ _ _ _, _, _, _, _, _, _, _, _, h => h.elim
  | .fstr _, _, _, _, _, _, _, _, _, h => h.elim
  | .efld _, _, _, _, _, _, _, _, _, h => h.elim
  | .eisi _, _, _, _, _, _, _, _, _, h => h.elim
  | .rng1 _, _, _, _, _, _, _, _, _, h => h.elim
  | .rng2 _ _, _, _, _, _, _, _, _, _, h => h.elim
  | .enm _, _, _, _, _, _, _, _, _, h => h.elim
  | .zip _ _, _, _, _, _, _, _, _, _, h => h.elim
  | .sq _, _, _, _, _, _, _, _, _, h => h.elim
  | .bad, _, _, _, _, _, _, _, _, h => h.elim
theorem wpA_mono : ∀ (as : A) (env : Env) (st : Store) (Q Q' : List D → Store → Prop) (X X' : QX), (∀ d s, Q d s → Q' d s) → (∀ x s, X x s → X' x s) → wpA T C hx as env st Q X → wpA T C hx as env st Q' X'
  | .nil, env, st, Q, Q', X, X', hQ, hX, h => hQ _ _ h
  | .cons e as, env, st, Q, Q', X, X', hQ, hX, h => wpE_mono e env st _ _ _ _ (fun d s1 h1 => wpA_mono as env s1 _ _ _ _ (fun ds s2 h2 => hQ _ _ h2) hX h1) hX h
theorem wpF_mono : ∀ (as : A) (env : Env) (st : Store) (acc : List Nat) (Q Q' : List Nat → Store → Prop) (X X' : QX), (∀ d s, Q d s → Q' d s) → (∀ x s, X x s → X' x s) → wpF T C hx as env st acc Q X → wpF T C hx as env st acc Q' X'
  | .nil, env, st, acc, Q, Q', X, X', hQ, hX, h => hQ _ _ h
  | .cons e as, env, st, acc, Q, Q', X, X', hQ, hX, h => wpE_mono e env st _ _ _ _ (fun d s1 h1 => fmtQ_mono (x := d) (fun y z => ⟨z.1, wpF_mono as env s1 _ _ _ _ _ hQ hX z.2⟩) h1) hX h
theorem wpTs_mono : ∀ (as : A) (env : Env) (st : Store) (Q Q' : Bool → Store → Prop), (∀ d s, Q d s → Q' d s) → wpTs T C hx as env st Q → wpTs T C hx as env st Q'
  | .nil, env, st, Q, Q', hQ, h => hQ _ _ h
  | .cons e .nil, env, st, Q, Q', hQ, h => wpT_mono e env st _ _ _ _ hQ (fun _ _ z => z) h
  | .cons _ (.cons _ _), _, _, _, _, _, h => h.elim
theorem wpI_mono : ∀ (e : E) (env : Env) (st : Store) (Q Q' : J → Store → Prop) (X X' : QX), (∀ d s, Q d s → Q' d s) → (∀ x s, X x s → X' x s) → wpI T C hx e env st Q X → wpI T C hx e env st Q' X'
  | .rng1 a, env, st, Q, Q', X, X', hQ, hX, h => wpE_mono a env st _ _ _ _ (fun x s1 h1 => by
    split at h1
    · exact ⟨h1.1, h1.2.1, hQ _ _ h1.2.2⟩
    · exact h1.elim) hX h
  | .rng2 a b, env, st, Q, Q', X, X', hQ, hX, h => wpE_mono a env st _ _ _ _ (fun x s1 h1 => wpE_mono b env s1 _ _ _ _ (fun y s2 h2 => by
    split at h2
    · exact ⟨h2.1, hQ _ _ h2.2⟩
    · exact h2.elim) hX h1) hX h
  | .enm a, env, st, Q, Q', X, X', hQ, hX, h => wpE_mono a env st _ _ _ _ (fun x s1 h1 => enmQ_mono (fun j => hQ _ _) h1) hX h
  | .zip a b, env, st, Q, Q', X, X', hQ, hX, h => wpE_mono a env st _ _ _ _ (fun x s1 h1 => wpE_mono b env s1 _ _ _ _ (fun y s2 h2 => zipQ_mono (fun j => hQ _ _) h2) hX h1) hX h
  | .sq a, env, st, Q, Q', X, X', hQ, hX, h => wpE_mono a env st _ _ _ _ (fun x s1 h1 => walkQ_mono (fun j => hQ _ _) h1) hX h
  | .var _, _, _, _, _, _, _, _, _, h => h.elim
  | .con _, _, _, _, _, _, _, _, _, h => h.elim
  | .glo _, _, _, _, _, _, _, _, _, h => h.elim
  | .bin _ _ _, _, _, _, _, _, _, _, _, h => h.elim
  | .neg _, _, _, _, _, _, _, _, _, h => h.elim
  | .cmp _ _ _, _, _, _, _, _, _, _, _, h => h.elim
  | .chain _ _ _ _ _, _, _, _, _, _, _, _, _, h => h.elim
  | .isN _, _, _, _, _, _, _, _, _, h => h.elim
  | .notN _, _, _, _, _, _, _, _, _, h => h.elim
  | .and _ _, _, _, _, _, _, _, _, _, h => h.elim
  | .or _ _, _, _, _, _, _, _, _, _, h => h.elim
  | .not _, _, _, _, _, _, _, _, _, h => h.elim
  | .ife _ _ _, _, _, _, _, _, _, _, _, h => h.elim
  | .call _ _ _, _, _, _, _, _, _, _, _, h => h.elim
  | .make _ _ _, _, _, _, _, _, _, _, _, h => h.elim
  | .meth _ _ _, _, _, _, _, _, _, _, _, h => h.elim
  | .fld _ _, _, _, _, _, _, _, _, _, h => h.elim
  | .pr _ _, _, _, _, _, _, _, _, _, h => h.elim
  | .me _ _ _, _, _, _, _, _, _, _, _, h => h.elim
  | .isi _ _, _, _, _, _, _, _, _, _, h => h.elim
  | .idx _ _, _, _, _, _, _, _, _, _, h => h.elim
  | .sli _ _ _, _, _, _, _, _, _, _, _, h => h.elim
  | .abs0, _, _, _, _, _, _, _, _, h => h.elim
  | .tup _, _, _, _, _, _, _, _, _, h => h.elim
  | .lst _, _, _, _, _, _, _, _, _, h => h.elim
  | .dic _, _, _, _, _, _, _, _, _, h => h.elim
  | .comp _ _ _ _ _, _, _, _, _, _, _, _, _, h => h.elim
  | .dcomp _ _ _ _ _ _, _, _, _, _, _, _, _, _, h => h.elim
  | .fstr _, _, _, _, _, _, _, _, _, h => h.elim
  | .efld _, _, _, _, _, _, _, _, _, h => h.elim
  | .eisi _, _, _, _, _, _, _, _, _, h => h.elim
  | .tv _, _, _, _, _, _, _, _, _, h => h.elim
  | .bad, _, _, _, _, _, _, _, _, h => h.elim
end
end
mutual
theorem wpS_mono {T : Tab} {C : Calls} (hC : MonoC C) : ∀ (s : S) (hx : Option Exc) (env : Env) (st : Store) (k k' : K), k.Le k' → wpS T C hx s env st k → wpS T C hx s env st k'
  | .asg tg e, hx, env, st, k, k', hk, h => ⟨h.1, wpE_mono hC e env st _ _ _ _ (fun d s1 h1 => by
    split at h1
    · exact hk.nx _ _ h1
    · exact h1.elim) (fun x s1 => hk.xc x env s1) h.2⟩
  | .asg2 i j a b, hx, env, st, k, k', hk, h => ⟨h.1, wpE_mono hC a env st _ _ _ _ (fun x s1 h1 => wpE_mono hC b env s1 _ _ _ _ (fun y s2 h2 => hk.nx _ _ h2) (fun x s1 => hk.xc x env s1) h1) (fun x s1 => hk.xc x env s1) h.2⟩
  | .setf o f e, hx, env, st, k, k', hk, h => wpE_mono hC e env st _ _ _ _ (fun v s1 h1 => wpE_mono hC o env s1 _ _ _ _ (fun x s2 h2 => setfQ_mono (fun s3 => hk.nx _ _) h2) (fun x s1 => hk.xc x env s1) h1) (fun x s1 => hk.xc x env s1) h
  | .seti o i e, hx, env, st, k, k', hk, h => wpE_mono hC e env st _ _ _ _ (fun v s1 h1 => wpE_mono hC o env s1 _ _ _ _ (fun x s2 h2 => wpE_mono hC i env s2 _ _ _ _ (fun y s3 h3 => setQ_mono (fun s4 => hk.nx _ _) h3) (fun x s1 => hk.xc x env s1) h2) (fun x s1 => hk.xc x env s1) h1) (fun x s1 => hk.xc x env s1) h
  | .augn i op e, hx, env, st, k, k', hk, h => getV_mono (fun x h0 => wpE_mono hC e env st _ _ _ _ (fun y s1 h1 => by
    split at h1
    · exact hk.nx _ _ h1
    · exact hk.nx _ _ h1
    · exact h1.elim) (fun x s1 => hk.xc x env s1) h0) h
  | .augf o f op e, hx, env, st, k, k', hk, h => wpE_mono hC o env st _ _ _ _ (fun x s1 h1 => fldQ_mono (fun v s1 h2 => wpE_mono hC e env s1 _ _ _ _ (fun y s2 h3 => by
    split at h3
    · exact ⟨h3.1, setfQ_mono (fun s3 => hk.nx _ _) h3.2⟩
    · exact ⟨h3.1, setfQ_mono (fun s3 => hk.nx _ _) h3.2⟩
    · exact h3.elim) (fun x s1 => hk.xc x env s1) h2) h1) (fun x s1 => hk.xc x env s1) h
  | .exp e, hx, env, st, k, k', hk, h => wpE_mono hC e env st _ _ _ _ (fun d s1 h1 => hk.nx _ _ h1) (fun x s1 => hk.xc x env s1) h
  | .ret e, hx, env, st, k, k', hk, h => wpE_mono hC e env st _ _ _ _ (fun d s1 h1 => hk.rt _ _ h1) (fun x s1 => hk.xc x env s1) h
  | .retN, hx, env, st, k, k', hk, h => hk.rt _ _ h
  | .ifS c a b, hx, env, st, k, k', hk, h => wpT_mono hC c env st _ _ _ _ (fun t s1 h1 => by
    cases t with
    | true => exact wpB_mono hC a hx env s1 _ _ hk h1
    | false => exact wpB_mono hC b hx env s1 _ _ hk h1) (fun x s1 => hk.xc x env s1) h
  | .forS tg it b, hx, env, st, k, k', hk, h => ⟨h.1, wpI_mono hC it env st _ _ _ _ (fun j s1 ⟨n, h1⟩ => ⟨n, forN_mono (fun e s q q' hq => wpB_mono hC b hx e s q q' hq) hk n 0 env s1 h1⟩) (fun x s1 => hk.xc x env s1) h.2⟩
  | .whl c b, hx, env, st, k, k', hk, h => ⟨h.1, h.2.elim fun n h1 => ⟨n, whlN_mono (fun e s P P' hP => wpT_mono hC c e s P P' _ _ hP fun x s1 => hk.xc x e s1) (fun e s q q' hq => wpB_mono hC b hx e s q q' hq) hk n env st h1⟩⟩
  | .brk, hx, env, st, k, k', hk, h => hk.bk _ _ h
  | .cnt, hx, env, st, k, k', hk, h => hk.ct _ _ h
  | .pas, hx, env, st, k, k', hk, h => hk.nx _ _ h
  | .rais c .nil, hx, env, st, k, k', hk, h => by
    unfold wpS at h ⊢
    refine ⟨h.1, ?_⟩
    have h2 := h.2
    split at h2
    · exact hk.xc _ _ _ h2
    · rename_i e; cases e
    · exact h2.elim
  | .rais c (.cons e .nil), hx, env, st, k, k', hk, h => by
    unfold wpS at h ⊢
    refine ⟨h.1, ?_⟩
    have h2 := h.2
    split at h2
    · rename_i e; cases e
    · rename_i e1 e2
      cases e2
      exact wpE_mono hC e env st _ _ _ _ (fun d s1 => hk.xc _ _ _) (fun x s1 => hk.xc x env s1) h2
    · exact h2.elim
  | .rais c (.cons _ (.cons _ _)), hx, env, st, k, k', hk, h => by
    unfold wpS at h ⊢
    refine ⟨h.1, ?_⟩
    have h2 := h.2
    split at h2
    · rename_i e; cases e
    · rename_i e; cases e
    · exact h2.elim
  | .tryS b hs, hx, env, st, k, k', hk, h => by
    refine ⟨h.1, wpB_mono hC b hx env st _ _ ?_ h.2⟩
    exact ⟨hk.nx, hk.rt, hk.bk, hk.ct, fun x e s => wpH_mono hC hs x e s k k' hk⟩
  | .del _ _, _, _, _, _, _, _, h => h.elim
  | .bad, _, _, _, _, _, _, h => h.elim
theorem wpB_mono {T : Tab} {C : Calls} (hC : MonoC C) : ∀ (b : B) (hx : Option Exc) (env : Env) (st : Store) (k k' : K), k.Le k' → wpB T C hx b env st k → wpB T C hx b env st k'
  | .nil, hx, env, st, k, k', hk, h => hk.nx _ _ h
  | .cons s b, hx, env, st, k, k', hk, h => by
    unfold wpB at h ⊢
    refine wpS_mono hC s hx env st _ _ ?_ h
    exact ⟨fun e s' => wpB_mono hC b hx e s' k k' hk, hk.rt, hk.bk, hk.ct, hk.xc⟩
theorem wpH_mono {T : Tab} {C : Calls} (hC : MonoC C) : ∀ (hs : Hs) (x : Exc) (env : Env) (st : Store) (k k' : K), k.Le k' → wpH T C hs x env st k → wpH T C hs x env st k'
  | .nil, x, env, st, k, k', hk, h => hk.xc _ _ _ h
  | .cons c nm b hs, x, env, st, k, k', hk, h => by
    unfold wpH at h ⊢
    split at h
    · rename_i e
      rw [if_pos e]
      refine wpB_mono hC b _ _ _ _ _ ?_ h
      exact ⟨fun e' s' => hk.nx _ _, hk.rt, fun _ _ z => z, fun _ _ z => z, fun _ _ _ z => z⟩
    · rename_i e
      rw [if_neg e]
      exact wpH_mono hC hs x env st k k' hk h
end
theorem Call_mono (T : Tab) : ∀ n : Nat, MonoC (Call T n)
  | 0, _, _, _, _, _, _, _, _, _, h => h.elim
  | n + 1, f, ds, st, Q, Q', X, X', hQ, hX, h => by
    unfold Call at h ⊢
    split at h
    · exact h.elim
    · refine ⟨h.1, wpB_mono (Call_mono T n) _ _ _ _ _ _ ?_ h.2⟩
      exact ⟨fun _ s => hQ _ _, hQ, fun _ _ z => z, fun _ _ z => z, fun x _ s => hX x s⟩
end Y
set_option linter.all false
set_option maxHeartbeats 4000000
namespace Y
open PySem PySem.Spec PyProof.Rows L2
structure G where
  K : PySem.W.Frag
  fa : Nat → Addr
  ca : Nat → Addr
  ka : Nat → Addr
  nm : Nat → Option Str
  okc : Nat → Bool
  oke : Nat → Bool
abbrev Mp := Nat → Option Addr
mutual
def RD (g : G) (m : Mp) (H : Hp) : D → V → Prop
  | .non, v => v = .non
  | .bl b, v => v = .bl b
  | .int i, v => v = .int i
  | .str x, v => v = .str ⟨x.toArray⟩
  | .tup ds, v => ∃ a vs, v = .ref a ∧ SqT g.K H a vs ∧ RDs g m H ds vs
  | .ref h, v => ∃ a, v = .ref a ∧ m h = some a
  | .kon k, v => v = .ref (g.ka k)
def RDs (g : G) (m : Mp) (H : Hp) : List D → List V → Prop
  | [], vs => vs = []
  | d :: ds, vs => ∃ v r, vs = v :: r ∧ RD g m H d v ∧ RDs g m H ds r
end
structure Ext (m m' : Mp) (H H' : Hp) : Prop where
  mm : ∀ h a, m h = some a → m' h = some a
  tt : ∀ b xs, Rd H b (.tup xs) → Rd H' b (.tup xs)
  xd : ∀ b fs, H b = some (.xd fs) → H' b = some (.xd fs)
theorem Ext.refl (m : Mp) (H : Hp) : Ext m m H H := ⟨fun _ _ h => h, fun _ _ h => h, fun _ _ h => h⟩
theorem Ext.trans {m m1 m2 : Mp} {H H1 H2 : Hp} (a : Ext m m1 H H1) (b : Ext m1 m2 H1 H2) : Ext m m2 H H2 :=
  ⟨fun h x e => b.mm h x (a.mm h x e), fun p xs r => b.tt p xs (a.tt p xs r), fun p fs r => b.xd p fs (a.xd p fs r)⟩
theorem SqT.ext {K : PySem.W.Frag} {m m' : Mp} {H H' : Hp} {a : Addr} {xs : List V} (e : Ext m m' H H') (h : SqT K H a xs) : SqT K H' a xs := by
  rcases h with h | h
  · exact .inl (e.tt _ _ h)
  · exact .inr h
section
variable {g : G} {m m' : Mp} {H H' : Hp}
mutual
theorem RD.mono (e : Ext m m' H H') : ∀ (d : D) (v : V), RD g m H d v → RD g m' H' d v
  | .non, _, h => h
  | .bl _, _, h => h
  | .int _, _, h => h
  | .str _, _, h => h
  | .tup ds, _, h => by
    obtain ⟨a, vs, h1, h2, h3⟩ := h
    exact ⟨a, vs, h1, SqT.ext e h2, RDs.mono e ds vs h3⟩
  | .ref _, _, h => by
    obtain ⟨a, h1, h2⟩ := h
    exact ⟨a, h1, e.mm _ _ h2⟩
  | .kon _, _, h => h
theorem RDs.mono (e : Ext m m' H H') : ∀ (ds : List D) (vs : List V), RDs g m H ds vs → RDs g m' H' ds vs
  | [], _, h => h
  | d :: ds, _, h => by
    obtain ⟨v, r, h1, h2, h3⟩ := h
    exact ⟨v, r, h1, RD.mono e d v h2, RDs.mono e ds r h3⟩
end
theorem RDs.length : ∀ {ds : List D} {vs : List V}, RDs g m H ds vs → vs.length = ds.length
  | [], _, h => by rw [show _ = [] from h]; rfl
  | d :: ds, _, h => by
    obtain ⟨v, r, rfl, _, h3⟩ := h
    simp [h3.length]
theorem RDs.get : ∀ {ds : List D} {vs : List V} {i : Nat} {d : D}, RDs g m H ds vs → ds[i]? = some d → ∃ v, vs[i]? = some v ∧ RD g m H d v
  | [], _, _, _, _, e => by simp at e
  | x :: ds, _, 0, d, h, e => by
    obtain ⟨v, r, rfl, h2, _⟩ := h
    simp at e
    subst e
    exact ⟨v, rfl, h2⟩
  | x :: ds, _, i + 1, d, h, e => by
    obtain ⟨v, r, rfl, _, h3⟩ := h
    obtain ⟨w, q1, q2⟩ := h3.get (i := i) (d := d) (by simpa using e)
    exact ⟨w, by simpa using q1, q2⟩
theorem RDs.app : ∀ {ds es : List D} {vs ws : List V}, RDs g m H ds vs → RDs g m H es ws → RDs g m H (ds ++ es) (vs ++ ws)
  | [], _, _, _, h, h' => by rw [show _ = [] from h]; exact h'
  | d :: ds, _, _, _, h, h' => by
    obtain ⟨v, r, rfl, h2, h3⟩ := h
    exact ⟨v, r ++ _, rfl, h2, h3.app h'⟩
theorem RDs.take : ∀ {ds : List D} {vs : List V} (n : Nat), RDs g m H ds vs → RDs g m H (ds.take n) (vs.take n)
  | [], _, n, h => by rw [show _ = [] from h]; simp [RDs]
  | d :: ds, _, 0, h => by simp [RDs]
  | d :: ds, _, n + 1, h => by
    obtain ⟨v, r, rfl, h2, h3⟩ := h
    exact ⟨v, r.take n, rfl, h2, h3.take n⟩
theorem RDs.drop : ∀ {ds : List D} {vs : List V} (n : Nat), RDs g m H ds vs → RDs g m H (ds.drop n) (vs.drop n)
  | [], _, n, h => by rw [show _ = [] from h]; simp [RDs]
  | d :: ds, _, 0, h => h
  | d :: ds, _, n + 1, h => by
    obtain ⟨v, r, rfl, h2, h3⟩ := h
    exact h3.drop n
theorem RDs.set : ∀ {ds : List D} {vs : List V} {d : D} {v : V} (i : Nat), RDs g m H ds vs → RD g m H d v → RDs g m H (ds.set i d) (vs.set i v)
  | [], _, _, _, _, h, _ => by rw [show _ = [] from h]; exact rfl
  | x :: ds, _, d, v, 0, h, q => by
    obtain ⟨w, r, rfl, h2, h3⟩ := h
    exact ⟨v, r, rfl, q, h3⟩
  | x :: ds, _, d, v, i + 1, h, q => by
    obtain ⟨w, r, rfl, h2, h3⟩ := h
    exact ⟨w, r.set i v, rfl, h2, h3.set i q⟩
theorem RDs.one {d : D} {v : V} (h : RD g m H d v) : RDs g m H [d] [v] := ⟨v, [], rfl, h, rfl⟩
theorem RDs.nil : RDs g m H [] [] := rfl
theorem RDs.cons {d : D} {v : V} {ds : List D} {vs : List V} (h : RD g m H d v) (t : RDs g m H ds vs) : RDs g m H (d :: ds) (v :: vs) := ⟨v, vs, rfl, h, t⟩
theorem RDs.rev {ds : List D} {vs : List V} (h : RDs g m H ds vs) : RDs g m H ds.reverse vs.reverse := by
  induction ds generalizing vs with
  | nil =>
    rw [show vs = [] from h]
    exact rfl
  | cons d ds ih =>
    obtain ⟨v, r, rfl, h2, h3⟩ := h
    rw [List.reverse_cons, List.reverse_cons]
    exact (ih h3).app (.one h2)
theorem RDs.rep {ds : List D} {vs : List V} (h : RDs g m H ds vs) : ∀ n : Nat, RDs g m H (List.replicate n ds).flatten (List.replicate n vs).flatten
  | 0 => rfl
  | n + 1 => by
    rw [List.replicate_succ, List.replicate_succ, List.flatten_cons, List.flatten_cons]
    exact h.app (RDs.rep h n)
theorem RDs.dropLast {ds : List D} {vs : List V} (h : RDs g m H ds vs) : RDs g m H ds.dropLast vs.dropLast := by
  rw [List.dropLast_eq_take, List.dropLast_eq_take, h.length]
  exact h.take _
theorem RDs.two {a b : D} {vs : List V} (h : RDs g m H [a, b] vs) : ∃ v w, vs = [v, w] ∧ RD g m H a v ∧ RD g m H b w := by
  obtain ⟨v, r, rfl, h2, w, r2, rfl, h3, h4⟩ := h
  rw [show r2 = [] from h4]
  exact ⟨v, w, rfl, h2, h3⟩
theorem RDs.un1 {a : D} {vs : List V} (h : RDs g m H [a] vs) : ∃ v, vs = [v] ∧ RD g m H a v := by
  obtain ⟨v, r, rfl, h2, h3⟩ := h
  rw [show r = [] from h3]
  exact ⟨v, rfl, h2⟩
def kD : Key → D
  | .inl i => .int i
  | .inr x => .str x.cps.toList
theorem kD_inj {a b : Key} (h : kD a = kD b) : a = b := by
  cases a with
  | inl i => cases b with
    | inl j => injection h with h; rw [h]
    | inr y => cases h
  | inr x => cases b with
    | inl j => cases h
    | inr y =>
      injection h with h
      obtain ⟨⟨l⟩⟩ := x
      obtain ⟨⟨k⟩⟩ := y
      have e : l = k := h
      rw [e]
def RK (g : G) (m : Mp) (H : Hp) : List (D × D) → List (Key × V) → Prop := Paired fun p q => p.1 = kD q.1 ∧ RD g m H p.2 q.2
def RT (g : G) (m : Mp) (H : Hp) : List (D × D) → List (List Key × V) → Prop := Paired fun p q => p.1 = .tup (q.1.map kD) ∧ RD g m H p.2 q.2
def RF (g : G) (m : Mp) (H : Hp) : List (Nat × D) → List (Str × V) → Prop := Paired fun p q => g.nm p.1 = some q.1 ∧ RD g m H p.2 q.2
theorem RK.mono (e : Ext m m' H H') {ps : List (D × D)} {qs : List (Key × V)} (h : RK g m H ps qs) : RK g m' H' ps qs := Paired.mapP h fun _ _ z => ⟨z.1, RD.mono e _ _ z.2⟩
theorem RT.mono (e : Ext m m' H H') {ps : List (D × D)} {qs : List (List Key × V)} (h : RT g m H ps qs) : RT g m' H' ps qs := Paired.mapP h fun _ _ z => ⟨z.1, RD.mono e _ _ z.2⟩
theorem RF.mono (e : Ext m m' H H') {ps : List (Nat × D)} {qs : List (Str × V)} (h : RF g m H ps qs) : RF g m' H' ps qs := Paired.mapP h fun _ _ z => ⟨z.1, RD.mono e _ _ z.2⟩
def KL (K : PySem.W.Frag) (a : Addr) (vs : List V) : Prop := ∃ (o : Obj) (its : Array Value) (n : Nat), K.lookup a = some o ∧ o.cls = .type "list" ∧ o.dict = none ∧ o.data = .seq its n ∧ its.size ≤ sizeLine ∧ Vals vs its.toList
def RO (g : G) (m : Mp) (H : Hp) (a : Addr) : O → Prop
  | .lst ds => ∃ vs, H a = some (.lst vs) ∧ RDs g m H ds vs
  | .fro ds => ∃ vs, ((∃ o, H a = some (.frz o (.lst vs))) ∨ KL g.K a vs) ∧ RDs g m H ds vs
  | .dic kvs => ∃ ps, H a = some (.dK ps) ∧ RK g m H kvs ps
  | .ins c fs => ∃ dx vs, H a = some (.ins (g.ca c) dx vs) ∧ RF g m H fs vs ∧ g.okc c = true
def isFro : Option O → Bool
  | some (.fro _) => true
  | _ => false
theorem RO.mono (e : Ext m m' H H') {a : Addr} (k : ∀ u, H a = some u → H' a = some u) : ∀ {o : O}, RO g m H a o → RO g m' H' a o
  | .lst ds, ⟨vs, h1, h2⟩ => ⟨vs, k _ h1, RDs.mono e _ _ h2⟩
  | .fro ds, ⟨vs, h1, h2⟩ => ⟨vs, h1.elim (fun ⟨o, z⟩ => .inl ⟨o, k _ z⟩) .inr, RDs.mono e _ _ h2⟩
  | .dic kvs, ⟨ps, h1, h2⟩ => ⟨ps, k _ h1, h2.mono e⟩
  | .ins c fs, ⟨dx, vs, h1, h2, h3⟩ => ⟨dx, vs, k _ h1, h2.mono e, h3⟩
theorem RO.mut {a : Addr} : ∀ {o : O}, RO g m H a o → isFro (some o) = false → Mut (H a)
  | .lst ds, ⟨vs, h1, _⟩, _ => by rw [h1]; trivial
  | .fro ds, _, h => by cases h
  | .dic kvs, ⟨ps, h1, _⟩, _ => by rw [h1]; trivial
  | .ins c fs, ⟨dx, vs, h1, _⟩, _ => by rw [h1]; trivial
structure SR (g : G) (m : Mp) (H : Hp) (st : Store) : Prop where
  at_ : ∀ (h : Nat) (o : O), st[h]? = some o → ∃ a, m h = some a ∧ RO g m H a o
  dom : ∀ h : Nat, st.length ≤ h → m h = none
  inj : ∀ (h h' : Nat) (a : Addr), m h = some a → m h' = some a → isFro st[h]? = false → isFro st[h']? = false → h = h'
def put (m : Mp) (n : Nat) (p : Addr) : Mp := fun h => if h = n then some p else m h
theorem put_same {n : Nat} {p : Addr} : put m n p n = some p := if_pos rfl
theorem put_ne {n h : Nat} {p : Addr} (e : h ≠ n) : put m n p h = m h := if_neg e
theorem SR.lt {st : Store} (S : SR g m H st) {h : Nat} {a : Addr} (e : m h = some a) : h < st.length := by
  rcases Nat.lt_or_ge h st.length with z | z
  · exact z
  · rw [S.dom h z] at e
    cases e
theorem SR.get {st : Store} (S : SR g m H st) {h : Nat} {a : Addr} {o : O} (e : m h = some a) (q : st[h]? = some o) : RO g m H a o := by
  obtain ⟨b, e2, r⟩ := S.at_ h o q
  rw [e] at e2
  cases e2
  exact r
theorem ext_new {a : Addr} {u : HO} (n : H a = none) (k : ∀ h b, m h = some b → m' h = some b) : Ext m m' H (upd H a u) := by
  refine ⟨k, fun b xs r => ?_, fun b fs r => ?_⟩
  · have ne : b ≠ a := by
      rcases r with r | ⟨o, r⟩
      · exact ne_of_none r n
      · exact ne_of_none r n
    rcases r with r | ⟨o, r⟩
    · exact .inl (by rw [upd_ne ne]; exact r)
    · exact .inr ⟨o, by rw [upd_ne ne]; exact r⟩
  · rw [upd_ne (ne_of_none r n)]
    exact r
theorem ext_mut {a : Addr} {u : HO} (n : Mut (H a)) : Ext m m H (upd H a u) := by
  have ne : ∀ {b : Addr} {o : HO}, H b = some o → ¬ Mut (some o) → b ≠ a := fun {b o} r z q => by
    subst q
    rw [r] at n
    exact z n
  refine ⟨fun _ _ h => h, fun b xs r => ?_, fun b fs r => ?_⟩
  · rcases r with r | ⟨o, r⟩
    · exact .inl (by rw [upd_ne (ne r fun z => z)]; exact r)
    · exact .inr ⟨o, by rw [upd_ne (ne r fun z => z)]; exact r⟩
  · rw [upd_ne (ne r fun z => z)]
    exact r
theorem put_mm {st : Store} (S : SR g m H st) {p : Addr} : ∀ h b, m h = some b → put m st.length p h = some b := fun h b e => by
  rw [put_ne (Nat.ne_of_lt (S.lt e))]
  exact e
theorem upd_keep {p a : Addr} {u w : HO} (n : H p = none) (h : H a = some w) : upd H p u a = some w := by
  rw [upd_ne (ne_of_none h n)]
  exact h
theorem SR.fresh {st : Store} (S : SR g m H st) {p : Addr} {u : HO} (n : H p = none) : SR g m (upd H p u) st :=
  ⟨fun h o q => let ⟨a, e, r⟩ := S.at_ h o q; ⟨a, e, r.mono (ext_new n fun _ _ z => z) fun w z => upd_keep n z⟩, S.dom, S.inj⟩
theorem SR.alloc {st : Store} (S : SR g m H st) {p : Addr} {u : HO} {o : O} (n : H p = none) (hf : isFro (some o) = false) (r : RO g (put m st.length p) (upd H p u) p o) : SR g (put m st.length p) (upd H p u) (st ++ [o]) := by
  have old : ∀ {h : Nat}, h < st.length → (st ++ [o])[h]? = st[h]? := fun {h} l => by rw [List.getElem?_append_left l]
  refine ⟨fun h o' q => ?_, fun h l => ?_, fun h h' a e e' f f' => ?_⟩
  · by_cases l : h < st.length
    · rw [old l] at q
      obtain ⟨a, e, z⟩ := S.at_ h o' q
      exact ⟨a, put_mm S _ _ e, z.mono (ext_new n (put_mm S)) fun w z => upd_keep n z⟩
    · have q2 := (List.getElem?_eq_some_iff.mp q).1
      have e : h = st.length := by
        rw [List.length_append] at q2
        simp at q2
        omega
      subst e
      rw [List.getElem?_append_right (Nat.le_refl _)] at q
      simp at q
      subst q
      exact ⟨p, put_same, r⟩
  · rw [List.length_append] at l
    simp at l
    rw [put_ne (by omega)]
    exact S.dom h (by omega)
  · have cs : ∀ {h : Nat}, put m st.length p h = some a → isFro (st ++ [o])[h]? = false → (h = st.length ∧ a = p) ∨ (h < st.length ∧ m h = some a ∧ isFro st[h]? = false ∧ a ≠ p) := fun {h} e f => by
      by_cases l : h = st.length
      · subst l
        rw [put_same] at e
        exact .inl ⟨rfl, (Option.some.inj e).symm⟩
      · rw [put_ne l] at e
        have l2 := S.lt e
        rw [old l2] at f
        refine .inr ⟨l2, e, f, ?_⟩
        obtain ⟨b, e2, z⟩ := S.at_ h st[h] (List.getElem?_eq_getElem l2)
        rw [e] at e2
        cases e2
        have mu := z.mut (by rw [← List.getElem?_eq_getElem l2]; exact f)
        rintro rfl
        rw [n] at mu
        exact mu
    rcases cs e f with ⟨h1, h2⟩ | ⟨h1, h2, h3, h4⟩
    · rcases cs e' f' with ⟨k1, k2⟩ | ⟨k1, k2, k3, k4⟩
      · rw [h1, k1]
      · exact absurd h2 k4
    · rcases cs e' f' with ⟨k1, k2⟩ | ⟨k1, k2, k3, k4⟩
      · exact absurd k2 h4
      · exact S.inj _ _ _ h2 k2 h3 k3
theorem SR.write {st : Store} (S : SR g m H st) {h : Nat} {a : Addr} {o o' : O} {u : HO} (e : m h = some a) (q : st[h]? = some o) (hf : isFro (some o) = false) (hf' : isFro (some o') = false) (r : RO g m (upd H a u) a o') : SR g m (upd H a u) (st.set h o') := by
  have l := S.lt e
  have mu := (S.get e q).mut hf
  have x : Ext m m H (upd H a u) := ext_mut mu
  have fr : ∀ k : Nat, isFro (st.set h o')[k]? = isFro st[k]? := fun k => by
    by_cases z : k = h
    · subst z
      rw [List.getElem?_set_self l, q, hf, hf']
    · rw [List.getElem?_set_ne (Ne.symm z)]
  refine ⟨fun k o2 q2 => ?_, fun k l2 => S.dom k (by simpa using l2), fun k k' b e1 e2 f1 f2 => S.inj k k' b e1 e2 (by rw [← fr]; exact f1) (by rw [← fr]; exact f2)⟩
  by_cases z : k = h
  · subst z
    rw [List.getElem?_set_self l] at q2
    cases q2
    exact ⟨a, e, r⟩
  · rw [List.getElem?_set_ne (Ne.symm z)] at q2
    obtain ⟨b, e2, w⟩ := S.at_ k o2 q2
    refine ⟨b, e2, ?_⟩
    cases f : isFro (some o2) with
    | false =>
      have ne : b ≠ a := by
        rintro rfl
        exact z (S.inj k h b e2 e (by rw [q2]; exact f) (by rw [q]; exact hf))
      exact w.mono x fun w' z' => by rw [upd_ne ne]; exact z'
    | true =>
      cases o2 with
      | fro ds =>
        obtain ⟨vs, h1, h2⟩ := w
        refine ⟨vs, ?_, RDs.mono x _ _ h2⟩
        rcases h1 with ⟨o, h1⟩ | h1
        · refine .inl ⟨o, ?_⟩
          rw [upd_ne]
          · exact h1
          · rintro rfl
            rw [h1] at mu
            exact mu
        · exact .inr h1
      | _ => cases f
structure ER (g : G) (m : Mp) (H : Hp) (σ : L2.St) (env : Env) : Prop where
  len : env.length = σ.length
  at_ : ∀ (i : Nat) (d : D), env[i]? = some (some d) → ∃ v, σ[i]? = some (some v) ∧ RD g m H d v
theorem ER.mono (e : Ext m m' H H') {σ : L2.St} {env : Env} (h : ER g m H σ env) : ER g m' H' σ env :=
  ⟨h.len, fun i d q => let ⟨v, h1, h2⟩ := h.at_ i d q; ⟨v, h1, RD.mono e d v h2⟩⟩
theorem ER.set {σ : L2.St} {env : Env} (h : ER g m H σ env) {d : D} {v : V} (i : Nat) (r : RD g m H d v) : ER g m H (σ.set i (some v)) (env.set i (some d)) := by
  refine ⟨by simp [h.len], fun j d' q => ?_⟩
  by_cases z : j = i
  · subst z
    have l := (List.getElem?_eq_some_iff.mp q).1
    rw [List.length_set] at l
    rw [List.getElem?_set_self l] at q
    cases q
    exact ⟨v, by rw [List.getElem?_set_self (by rw [← h.len]; exact l)], r⟩
  · rw [List.getElem?_set_ne (Ne.symm z)] at q ⊢
    exact h.at_ j d' q
theorem ER.unset {σ : L2.St} {env : Env} (h : ER g m H σ env) (i : Nat) : ER g m H (σ.set i none) (env.set i none) := by
  refine ⟨by simp [h.len], fun j d' q => ?_⟩
  by_cases z : j = i
  · subst z
    have l := (List.getElem?_eq_some_iff.mp q).1
    rw [List.length_set] at l
    rw [List.getElem?_set_self l] at q
    cases q
  · rw [List.getElem?_set_ne (Ne.symm z)] at q ⊢
    exact h.at_ j d' q
theorem ER.wipe {σ : L2.St} {env : Env} (h : ER g m H σ env) : ∀ vs : List Nat, ER g m H (wipe σ vs) (wipeE env vs)
  | [] => h
  | v :: vs => (ER.wipe h vs).unset v
def RX (g : G) (m : Mp) (H : Hp) (x : Exc) (cls : Value) (dx : Option Addr) : Prop :=
  cls = .ref (g.ca x.cls) ∧ g.oke x.cls = true ∧ ((x.fs = [] ∧ dx = none) ∨ ∃ d vs, dx = some d ∧ H d = some (.xd vs) ∧ RF g m H x.fs vs)
theorem RX.mono (e : Ext m m' H H') {x : Exc} {cls : Value} {dx : Option Addr} (h : RX g m H x cls dx) : RX g m' H' x cls dx := by
  refine ⟨h.1, h.2.1, ?_⟩
  rcases h.2.2 with h | ⟨d, vs, h1, h2, h3⟩
  · exact .inl h
  · exact .inr ⟨d, vs, h1, e.xd _ _ h2, h3.mono e⟩
end
def rE (g : G) (T : Tab) (C : Calls) (hx : Option Exc) (W : WX) (e : E) : TE := fun σ H Q => ∃ (m : Mp) (env : Env) (st : Store), SR g m H st ∧ ER g m H σ env ∧
  wpE T C hx e env st (fun d s => ∀ m' H' v, Ext m m' H H' → SR g m' H' s → RD g m' H' d v → Q v H') (fun x s => ∀ m' H' cls dx, Ext m m' H H' → SR g m' H' s → RX g m' H' x cls dx → W cls dx σ H')
def rT (g : G) (T : Tab) (C : Calls) (hx : Option Exc) (W : WX) (e : E) : TT := fun σ H Q => ∃ (m : Mp) (env : Env) (st : Store), SR g m H st ∧ ER g m H σ env ∧
  wpT T C hx e env st (fun b s => ∀ m' H', Ext m m' H H' → SR g m' H' s → Q b H') (fun x s => ∀ m' H' cls dx, Ext m m' H H' → SR g m' H' s → RX g m' H' x cls dx → W cls dx σ H')
def rA (g : G) (T : Tab) (C : Calls) (hx : Option Exc) (W : WX) (as : A) : TA := fun σ H Q => ∃ (m : Mp) (env : Env) (st : Store), SR g m H st ∧ ER g m H σ env ∧
  wpA T C hx as env st (fun ds s => ∀ m' H' vs, Ext m m' H H' → SR g m' H' s → RDs g m' H' ds vs → Q vs H') (fun x s => ∀ m' H' cls dx, Ext m m' H H' → SR g m' H' s → RX g m' H' x cls dx → W cls dx σ H')
theorem PE.weak {X : Cx} {e : Expr} {t t' : TE} (h : PE X e t) (w : ∀ σ H Q, t' σ H Q → t σ H Q) : PE X e t' := ⟨fun pins s σ H Q I q => h.run pins s σ H Q I (w σ H Q q)⟩
theorem PT.weak {X : Cx} {e : Expr} {t t' : TT} (h : PT X e t) (w : ∀ σ H Q, t' σ H Q → t σ H Q) : PT X e t' := ⟨fun pins s σ H Q I q => h.run pins s σ H Q I (w σ H Q q)⟩
theorem PW.weak {X : Cx} {e : Expr} {t t' : TT} (h : PW X e t) (w : ∀ σ H Q, t' σ H Q → t σ H Q) : PW X e t' := ⟨fun wh pins s σ H Q I q => h.run wh pins s σ H Q I (w σ H Q q)⟩
theorem PA.weak {X : Cx} {e : List Expr} {t t' : TA} (h : PA X e t) (w : ∀ σ H Q, t' σ H Q → t σ H Q) : PA X e t' := ⟨fun pos pins s σ H Q I q => h.run pos pins s σ H Q I (w σ H Q q)⟩
theorem PS.weak {X : Cx} {e : Stmt} {t t' : TS} (h : PS X e t) (w : ∀ k σ H, t' k σ H → t k σ H) : PS X e t' := ⟨fun pins s σ H k I q => h.run pins s σ H k I (w k σ H q)⟩
theorem PSs.weak {X : Cx} {e : List Stmt} {t t' : TS} (h : PSs X e t) (w : ∀ k σ H, t' k σ H → t k σ H) : PSs X e t' := ⟨fun pins s σ H k I q => h.run pins s σ H k I (w k σ H q)⟩
end Y
set_option linter.all false
set_option maxHeartbeats 4000000
set_option maxRecDepth 100000
namespace Y
open PySem PySem.Spec PyProof.Rows L2
abbrev Wn (g : G) (m : Mp) (H : Hp) (Q : VK) : QE := fun d s => ∀ m' H' v, Ext m m' H H' → SR g m' H' s → RD g m' H' d v → Q v H'
section
variable {g : G} {m : Mp} {H : Hp} {st : Store} {Q : VK}
theorem Wn.here (S : SR g m H st) {d : D} {v : V} (r : RD g m H d v) (h : Wn g m H Q d st) : Q v H := h m H v (.refl _ _) S r
theorem Wn.int (S : SR g m H st) {i : Int} (h : Wn g m H Q (.int i) st) : Q (.int i) H := h m H _ (.refl _ _) S rfl
theorem Wn.str (S : SR g m H st) {x : List Nat} (h : Wn g m H Q (.str x) st) : Q (.str ⟨x.toArray⟩) H := h m H _ (.refl _ _) S rfl
theorem Wn.bl (S : SR g m H st) {b : Bool} (h : Wn g m H Q (.bl b) st) : Q (.bl b) H := h m H _ (.refl _ _) S rfl
theorem Wn.non (S : SR g m H st) (h : Wn g m H Q .non st) : Q .non H := h m H _ (.refl _ _) S rfl
theorem Wn.new (S : SR g m H st) {p : Addr} {u : HO} {o : O} (n : H p = none) (f : isFro (some o) = false) (r : RO g (put m st.length p) (upd H p u) p o) (h : Wn g m H Q (.ref st.length) (st ++ [o])) : Q (.ref p) (upd H p u) :=
  h _ _ _ (ext_new n (put_mm S)) (S.alloc n f r) ⟨p, rfl, put_same⟩
theorem Wn.tup (S : SR g m H st) {p : Addr} {ds : List D} {vs : List V} (n : H p = none) (r : RDs g m H ds vs) (h : Wn g m H Q (.tup ds) st) : Q (.ref p) (upd H p (.tup vs)) := by
  have x : Ext m m H (upd H p (.tup vs)) := ext_new n fun _ _ z => z
  exact h _ _ _ x (S.fresh n) ⟨p, vs, rfl, .inl (.inl upd_same), RDs.mono x _ _ r⟩
theorem Wn.wr (S : SR g m H st) {h : Nat} {a : Addr} {o o' : O} {u : HO} {d : D} {v : V} (e : m h = some a) (q : st[h]? = some o) (hf : isFro (some o) = false) (hf' : isFro (some o') = false) (r : RO g m (upd H a u) a o') (rd : RD g m H d v)
    (z : Wn g m H Q d (st.set h o')) : Q v (upd H a u) := by
  have x : Ext m m H (upd H a u) := ext_mut ((S.get e q).mut hf)
  exact z _ _ _ x (S.write e q hf hf' r) (RD.mono x _ _ rd)
theorem ro_lst {a : Addr} {n : Nat} {ds : List D} {vs : List V} (S : SR g m H st) (hn : H a = none) (r : RDs g m H ds vs) : RO g (put m st.length a) (upd H a (.lst vs)) a (.lst ds) := ⟨vs, upd_same, RDs.mono (ext_new hn (put_mm S)) _ _ r⟩
theorem Wn.wrl (S : SR g m H st) {h : Nat} {a : Addr} {ds ds' : List D} {us vs : List V} {d : D} {v : V} (e : m h = some a) (q : st[h]? = some (.lst ds)) (h1 : H a = some (.lst us)) (z : Wn g m H Q d (st.set h (.lst ds'))) (rd : RD g m H d v) (r : RDs g m H ds' vs) : Q v (upd H a (.lst vs)) :=
  Wn.wr (o' := .lst ds') S e q rfl rfl ⟨vs, upd_same, RDs.mono (ext_mut (by rw [h1]; trivial)) _ _ r⟩ rd z
theorem Wn.newl (S : SR g m H st) {p : Addr} {ds : List D} {vs : List V} (n : H p = none) (z : Wn g m H Q (.ref st.length) (st ++ [.lst ds])) (r : RDs g m H ds vs) : Q (.ref p) (upd H p (.lst vs)) :=
  Wn.new (o := .lst ds) S n rfl (ro_lst (n := 0) S n r) z
theorem rd_int {i : Int} {v : V} (h : RD g m H (.int i) v) : v = .int i := h
theorem rd_str {x : List Nat} {v : V} (h : RD g m H (.str x) v) : v = .str ⟨x.toArray⟩ := h
theorem rd_bl {x : Bool} {v : V} (h : RD g m H (.bl x) v) : v = .bl x := h
theorem rd_non {v : V} (h : RD g m H .non v) : v = .non := h
theorem rd_tup {ds : List D} {v : V} (h : RD g m H (.tup ds) v) : ∃ a vs, v = .ref a ∧ SqT g.K H a vs ∧ RDs g m H ds vs := h
theorem rd_ref {h : Nat} {v : V} (r : RD g m H (.ref h) v) : ∃ a, v = .ref a ∧ m h = some a := r
theorem str_app (a b : List Nat) : ((⟨a.toArray⟩ : Str) ++ (⟨b.toArray⟩ : Str)) = ⟨(a ++ b).toArray⟩ := by
  show (⟨a.toArray ++ b.toArray⟩ : Str) = _
  rw [List.append_toArray]
theorem str_len (a : List Nat) : (⟨a.toArray⟩ : Str).length = a.length := by
  show a.toArray.size = a.length
  simp
theorem str_codes (x : Str) : (⟨x.cps.toList.toArray⟩ : Str) = x := by
  obtain ⟨⟨l⟩⟩ := x
  rfl
theorem at_ix {α : Type} {xs : List α} {i : Int} {j : Nat} {c : α} (h : ixOf xs.length i = some j) (e : xs[j]? = some c) : atI xs i = some c := by
  show (ixN xs.length i).bind (fun j => xs[j]?) = some c
  have q : ixN xs.length i = some j := h
  rw [q]
  exact e
theorem SR.sqL (S : SR g m H st) {h : Nat} {a : Addr} {ds : List D} (e : m h = some a) (q : st[h]? = some (.lst ds) ∨ st[h]? = some (.fro ds)) : ∃ vs, SqL g.K H a vs ∧ RDs g m H ds vs := by
  rcases q with q | q
  · obtain ⟨vs, h1, h2⟩ := S.get e q
    exact ⟨vs, SqL.of h1, h2⟩
  · obtain ⟨vs, h1, h2⟩ := S.get e q
    refine ⟨vs, ?_, h2⟩
    rcases h1 with ⟨o, h1⟩ | h1
    · exact .inl (.inr ⟨o, h1⟩)
    · exact .inr h1
theorem SR.lst (S : SR g m H st) {h : Nat} {a : Addr} {ds : List D} (e : m h = some a) (q : st[h]? = some (.lst ds)) : ∃ vs, H a = some (.lst vs) ∧ RDs g m H ds vs := S.get e q
end
section
variable {X : Cx} {g : G}
def opR : Op → Operator
  | .add => .Add | .sub => .Sub | .mul => .Mult | .fdiv => .FloorDiv | .mod => .Mod | .pow => .Pow
def rBin (g : G) (o : Op) : R2 := fun x y H Q => ∃ m st dx dy, SR g m H st ∧ RD g m H dx x ∧ RD g m H dy y ∧ binQ st o dx dy (Wn g m H Q)
theorem op_bin (hK : X.K = g.K) (o : Op) : OpR X (binaryOp (opR o)) (rBin g o) := by
  intro pins s σ H x y v u Q I rx ry h
  obtain ⟨m, st, dx, dy, S, hx, hy, h⟩ := h
  unfold binQ at h
  split at h
  · cases rd_int hx
    cases rd_int hy
    exact op_add pins s σ H _ _ v u Q I rx ry ⟨_, _, rfl, rfl, Wn.int S h⟩
  · cases rd_str hx
    cases rd_str hy
    exact op_add_str pins s σ H _ _ v u Q I rx ry ⟨_, _, rfl, rfl, by rw [str_len, str_len]; exact h.1, by rw [str_app]; exact Wn.str S h.2⟩
  · obtain ⟨a, vs, rfl, h1, h2⟩ := rd_tup hx
    obtain ⟨b, ws, rfl, k1, k2⟩ := rd_tup hy
    rw [← hK] at h1 k1
    refine op_catA pins s σ H _ _ v u Q I rx ry ⟨a, b, vs, ws, rfl, rfl, h1, k1, by rw [h2.length, k2.length]; exact h.1, fun e => ?_, fun _ e => ?_, fun _ _ p n => ?_⟩
    · subst e
      refine Wn.here S ?_ h.2
      refine ⟨b, ws, rfl, hK ▸ k1, ?_⟩
      have := h2.app k2
      exact this
    · subst e
      refine Wn.here S ?_ h.2
      refine ⟨a, vs, rfl, hK ▸ h1, ?_⟩
      have := h2.app k2
      rw [List.append_nil] at this
      exact this
    · exact Wn.tup S n (h2.app k2) h.2
  · split at h
    · rename_i e1 e2
      obtain ⟨a, rfl, ha⟩ := rd_ref hx
      obtain ⟨b, rfl, hb⟩ := rd_ref hy
      obtain ⟨vs, h1, h2⟩ := S.lst ha e1
      obtain ⟨ws, k1, k2⟩ := S.lst hb e2
      refine op_cat pins s σ H _ _ v u Q I rx ry ⟨a, b, vs, ws, rfl, rfl, h1, k1, by rw [h2.length, k2.length]; exact h.1, fun p n => ?_⟩
      exact Wn.new S n rfl (ro_lst (n := 0) S n (h2.app k2)) h.2
    · exact h.elim
  · cases rd_int hx
    cases rd_int hy
    exact op_sub pins s σ H _ _ v u Q I rx ry ⟨_, _, rfl, rfl, Wn.int S h⟩
  · cases rd_int hx
    cases rd_int hy
    exact op_mul pins s σ H _ _ v u Q I rx ry ⟨_, _, rfl, rfl, h.1, Wn.int S h.2⟩
  · split at h
    · rename_i e1
      obtain ⟨a, rfl, ha⟩ := rd_ref hx
      cases rd_int hy
      obtain ⟨vs, h1, h2⟩ := S.lst ha e1
      refine op_rep pins s σ H _ _ v u Q I rx ry ⟨a, _, vs, rfl, rfl, h1, h.1, h.2.1, by rw [h2.length]; exact h.2.2.1, fun p n => ?_⟩
      exact Wn.new S n rfl (ro_lst (n := 0) S n (h2.rep _)) h.2.2.2
    · exact h.elim
  · cases rd_int hx
    cases rd_int hy
    exact op_fdiv pins s σ H _ _ v u Q I rx ry ⟨_, _, rfl, rfl, ⟨h.1, h.2.1⟩, Wn.int S h.2.2⟩
  · cases rd_int hx
    cases rd_int hy
    exact op_mod pins s σ H _ _ v u Q I rx ry ⟨_, _, rfl, rfl, h.1, Wn.int S h.2⟩
  · cases rd_int hx
    cases rd_int hy
    exact op_pow pins s σ H _ _ v u Q I rx ry ⟨_, _, rfl, rfl, ⟨h.1, h.2.1, h.2.2.1⟩, Wn.int S h.2.2.2⟩
  · exact h.elim
structure KonAt (g : G) (T : Tab) (w : World) (k : Nat) : Prop where
  d : ∃ es n, KDict g.K w (g.ka k) es n
  at_ : ∀ x : List Nat, ∃ r, PySem.W.nsIn g.K (g.ka k) ⟨x.toArray⟩ = some r ∧ (match getC (T.kon k) (.str x) with
    | some d => ∃ u v, r = some u ∧ RelV v u ∧ ∀ m H, RD g m H d v
    | none => r = none)
  cls : ∃ o, g.K.lookup (g.ka k) = some o ∧ o.cls = .type "dict"
structure ClsAt (K : PySem.W.Frag) (C : Addr) : Prop where
  cl : Cls K C
  ha : PySem.W.findIn K (.ref C) "__class__" = some (some (.builtin "object.__class__"))
  hn : PySem.W.specialIn K (.builtin "object.__class__") "__get__" = some (some (.builtin "getset_descriptor.__get__"))
  htk : PySem.W.takesIn K (.builtin "object.__class__") = some true
  hm : PySem.W.mroIn K C (.type "object") = some true
def tyV1 (g : G) : Ty → Value
  | .int => .type "int" | .str => .type "str" | .bool => .type "bool" | .tuple => .type "tuple" | .list => .type "list" | .dict => .type "dict"
  | .own c => .ref (g.ca c)
structure Vf (g : G) (T : Tab) (w : World) : Prop where
  kon : ∀ k, T.kon k ≠ [] → KonAt g T w k
  nmi : ∀ f f' x, g.nm f = some x → g.nm f' = some x → f = f'
mutual
theorem dp_of {m : Mp} {H : Hp} {st : Store} (hK : X.K = g.K) (S : SR g m H st) : ∀ (n : Nat) (d : D) (v : V) (p : PyData), RD g m H d v → toP n st d = some p → Dp X.K H v p ∧ PyData.canLay0 p = true ∧ p.depth ≤ n
  | _, .non, v, p, r, e => by
    cases rd_non r
    unfold toP at e
    cases e
    exact ⟨.non, rfl, Nat.zero_le _⟩
  | _, .bl b, v, p, r, e => by
    cases rd_bl r
    unfold toP at e
    cases e
    exact ⟨.bl b, rfl, Nat.zero_le _⟩
  | _, .int i, v, p, r, e => by
    cases rd_int r
    unfold toP at e
    cases e
    exact ⟨.int i, rfl, Nat.zero_le _⟩
  | _, .str x, v, p, r, e => by
    cases rd_str r
    unfold toP at e
    split at e
    · rename_i z
      cases e
      refine ⟨.str _, ?_, Nat.zero_le _⟩
      show PyData.strOk ⟨x.toArray⟩ = true
      unfold PyData.strOk
      rw [← z]
      simp
    · cases e
  | 0, .tup ds, v, p, r, e => by
    unfold toP at e
    cases e
  | 0, .ref h, v, p, r, e => by
    unfold toP at e
    cases e
  | n + 1, .tup ds, v, p, r, e => by
    obtain ⟨a, vs, rfl, h1, h2⟩ := rd_tup r
    unfold toP at e
    obtain ⟨ps, e1, rfl⟩ := Option.map_eq_some_iff.mp e
    obtain ⟨q1, q2, q3⟩ := dps_of hK S n ds vs ps h2 e1
    exact ⟨.tup (hK ▸ h1) q1, q2, Nat.succ_le_succ q3⟩
  | n + 1, .ref h, v, p, r, e => by
    obtain ⟨a, rfl, ha⟩ := rd_ref r
    unfold toP at e
    split at e
    · rename_i ds e0
      obtain ⟨ps, e1, rfl⟩ := Option.map_eq_some_iff.mp e
      obtain ⟨vs, h1, h2⟩ := S.sqL ha (.inl e0)
      obtain ⟨q1, q2, q3⟩ := dps_of hK S n ds vs ps h2 e1
      exact ⟨.lst (hK ▸ h1) q1, q2, Nat.succ_le_succ q3⟩
    · rename_i ds e0
      obtain ⟨ps, e1, rfl⟩ := Option.map_eq_some_iff.mp e
      obtain ⟨vs, h1, h2⟩ := S.sqL ha (.inr e0)
      obtain ⟨q1, q2, q3⟩ := dps_of hK S n ds vs ps h2 e1
      exact ⟨.lst (hK ▸ h1) q1, q2, Nat.succ_le_succ q3⟩
    · cases e
  | 0, .kon k, v, p, r, e => by
    unfold toP at e
    cases e
  | n + 1, .kon k, v, p, r, e => by
    unfold toP at e
    cases e
theorem dps_of {m : Mp} {H : Hp} {st : Store} (hK : X.K = g.K) (S : SR g m H st) : ∀ (n : Nat) (ds : List D) (vs : List V) (ps : List PyData), RDs g m H ds vs → ds.mapM (toP n st) = some ps → DpAll X.K H vs ps ∧ PyData.canLayAll0 ps = true ∧ PyData.depthAll ps ≤ n
  | n, [], vs, ps, r, e => by
    rw [show vs = [] from r]
    have e2 : some [] = some ps := e
    cases e2
    exact ⟨.nil, rfl, Nat.zero_le _⟩
  | n, d :: ds, vs, ps, r, e => by
    obtain ⟨v, ws, rfl, h1, h2⟩ := r
    rw [List.mapM_cons] at e
    obtain ⟨p, e1, e2⟩ := Option.bind_eq_some_iff.mp e
    obtain ⟨qs, e3, e4⟩ := Option.bind_eq_some_iff.mp e2
    have e5 : some (p :: qs) = some ps := e4
    cases e5
    obtain ⟨q1, q2, q3⟩ := dp_of hK S n d v p h1 e1
    obtain ⟨k1, k2, k3⟩ := dps_of hK S n ds ws qs h2 e3
    exact ⟨.cons q1 k1, by show (PyData.canLay0 p && PyData.canLayAll0 qs) = true; rw [q2, k2]; rfl, Nat.max_le.mpr ⟨q3, k3⟩⟩
end
theorem shaped_of {p : PyData} (h1 : PyData.canLay0 p = true) (h2 : p.depth ≤ 60) : SeqAt.shaped p = true := by
  unfold SeqAt.shaped
  rw [h1]
  exact decide_eq_true (by omega)
def cmR : Cm → CmpOp
  | .eq => .Eq | .ne => .NotEq | .lt => .Lt | .le => .LtE | .gt => .Gt | .ge => .GtE | .inn => .In | .nin => .NotIn
theorem toA_inj {a b : List Nat} : (V.str ⟨a.toArray⟩ = V.str ⟨b.toArray⟩) ↔ a = b := by
  constructor
  · intro h
    injection h with h
    injection h with h
    simpa using congrArg Array.toList h
  · rintro rfl
    rfl
theorem eq_val (hK : X.K = g.K) (hu : X.A.units + 64 < cLine) {m : Mp} {H : Hp} {st : Store} {dx dy : D} {P : Bool → Prop} (S : SR g m H st) {x y : V} (hx : RD g m H dx x) (hy : RD g m H dy y) (h : eqQ st dx dy P) :
    ∃ b, P b ∧ ((scal x y = true ∧ b = decide (x = y)) ∨ ∃ d e, Dp X.K H x d ∧ Dp X.K H y e ∧ SeqAt.shaped d = true ∧ SeqAt.shaped e = true ∧ b = PyData.eqv d e) := by
  unfold eqQ at h
  split at h
  · cases rd_int hx
    cases rd_int hy
    exact ⟨_, h, .inl ⟨rfl, by simp⟩⟩
  · cases rd_str hx
    cases rd_str hy
    exact ⟨_, h, .inl ⟨rfl, by simp only [toA_inj]⟩⟩
  · cases rd_bl hx
    cases rd_bl hy
    exact ⟨_, h, .inl ⟨rfl, by simp⟩⟩
  · cases rd_non hx
    cases rd_non hy
    exact ⟨_, h, .inl ⟨rfl, by simp⟩⟩
  · cases rd_non hx
    cases rd_int hy
    exact ⟨_, h, .inl ⟨rfl, by simp⟩⟩
  · cases rd_int hx
    cases rd_non hy
    exact ⟨_, h, .inl ⟨rfl, by simp⟩⟩
  · cases rd_non hx
    cases rd_str hy
    exact ⟨_, h, .inl ⟨rfl, by simp⟩⟩
  · cases rd_str hx
    cases rd_non hy
    exact ⟨_, h, .inl ⟨rfl, by simp⟩⟩
  · cases rd_int hx
    cases rd_str hy
    exact ⟨_, h, .inl ⟨rfl, by simp⟩⟩
  · cases rd_str hx
    cases rd_int hy
    exact ⟨_, h, .inl ⟨rfl, by simp⟩⟩
  · obtain ⟨d, e, e1, e2, h⟩ := h
    obtain ⟨p1, p2, p3⟩ := dp_of hK S 60 _ _ _ hx e1
    obtain ⟨q1, q2, q3⟩ := dp_of hK S 60 _ _ _ hy e2
    exact ⟨_, h, .inr ⟨d, e, p1, q1, shaped_of p2 p3, shaped_of q2 q3, rfl⟩⟩
theorem flat_val {m : Mp} {H : Hp} {d : D} {v : V} (h : RD g m H d v) (f : flatD d = true) : flatV v = true := by
  cases d with
  | non => cases rd_non h; rfl
  | bl b => cases rd_bl h; rfl
  | int i => cases rd_int h; rfl
  | str x => cases rd_str h; rfl
  | _ => cases f
theorem flats_val {m : Mp} {H : Hp} : ∀ {ds : List D} {vs : List V}, RDs g m H ds vs → ds.all flatD = true → vs.all flatV = true
  | [], _, h, _ => by rw [show _ = [] from h]; rfl
  | d :: ds, _, h, f => by
    obtain ⟨v, r, rfl, h2, h3⟩ := h
    simp only [List.all_cons, Bool.and_eq_true] at f ⊢
    exact ⟨flat_val h2 f.1, flats_val h3 f.2⟩
theorem str_eqv (a b : List Nat) : ((⟨a.toArray⟩ : Str) == ⟨b.toArray⟩) = decide (a = b) := by
  rw [Bool.eq_iff_iff]
  constructor
  · intro h
    have e := eq_of_beq h
    injection e with e
    exact decide_eq_true (by simpa using congrArg Array.toList e)
  · intro h
    rw [of_decide_eq_true h]
    exact beq_self_eq_true _
theorem eqV_val {m : Mp} {H : Hp} {d e : D} {v w : V} (h : RD g m H d v) (h' : RD g m H e w) (f : flatD d = true) (f' : flatD e = true) : eqV v w = eqD d e := by
  cases d <;> first | (cases f; done) | skip
  all_goals cases e <;> first | (cases f'; done) | skip
  all_goals first
    | (cases rd_int h; cases rd_int h'; show (_ == _) = decide (_ = _); rw [Bool.beq_eq_decide_eq])
    | (cases rd_str h; cases rd_str h'; simp only [eqV, eqD, str_eqv])
    | (cases rd_bl h; cases rd_int h'; simp [eqV, eqD])
    | (cases rd_int h; cases rd_bl h'; simp [eqV, eqD])
    | (cases rd_bl h; cases rd_bl h'; simp [eqV, eqD])
    | (cases rd_non h; cases rd_non h'; rfl)
    | (cases rd_non h; first | (cases rd_int h'; rfl) | (cases rd_str h'; rfl) | (cases rd_bl h'; rfl))
    | (cases rd_int h; first | (cases rd_non h'; rfl) | (cases rd_str h'; rfl))
    | (cases rd_str h; first | (cases rd_non h'; rfl) | (cases rd_int h'; rfl) | (cases rd_bl h'; rfl))
    | (cases rd_bl h; first | (cases rd_non h'; rfl) | (cases rd_str h'; rfl))
theorem inV_val {m : Mp} {H : Hp} {d : D} {v : V} (h : RD g m H d v) (f : flatD d = true) : ∀ {ds : List D} {vs : List V}, RDs g m H ds vs → ds.all flatD = true → inV v vs = inD d ds
  | [], _, q, _ => by rw [show _ = [] from q]; rfl
  | e :: ds, _, q, fs => by
    obtain ⟨w, r, rfl, h2, h3⟩ := q
    simp only [List.all_cons, Bool.and_eq_true] at fs
    show (eqV w v || inV v r) = (eqD e d || inD d ds)
    rw [eqV_val h2 h fs.1 f, inV_val h f h3 fs.2]
theorem key_flat {m : Mp} {H : Hp} {k : Key} {v : V} (h : RD g m H (kD k) v) : v = kV k := by
  cases k with
  | inl i => exact rd_int h
  | inr x =>
    rw [rd_str h]
    show V.str ⟨x.cps.toList.toArray⟩ = V.str x
    rw [str_codes]
theorem keys_flat {m : Mp} {H : Hp} : ∀ {ks : List Key} {vs : List V}, RDs g m H (ks.map kD) vs → vs = ks.map kV
  | [], _, h => h
  | k :: ks, _, h => by
    obtain ⟨v, r, rfl, h2, h3⟩ := h
    rw [key_flat h2, keys_flat h3]
    rfl
theorem key_cases {d : D} (h : keyD d = true) : ∃ k : Key, d = kD k := by
  cases d with
  | int i => exact ⟨.inl i, rfl⟩
  | str x => exact ⟨.inr ⟨x.toArray⟩, by show D.str x = D.str x.toArray.toList; rw [List.toList_toArray]⟩
  | _ => cases h
theorem map_kD_inj : ∀ {a b : List Key}, a.map kD = b.map kD → a = b
  | [], [], _ => rfl
  | [], _ :: _, h => by cases h
  | _ :: _, [], h => by cases h
  | x :: xs, y :: ys, h => by
    injection h with h1 h2
    rw [kD_inj h1, map_kD_inj h2]
theorem rk_get {m : Mp} {H : Hp} {k : Key} : ∀ {kvs : List (D × D)} {ps : List (Key × V)}, RK g m H kvs ps → (match getK kvs (kD k) with
    | some d => ∃ v, valV ps k = some v ∧ RD g m H d v
    | none => valV ps k = none)
  | _, _, .nil => rfl
  | _, _, @Paired.cons _ _ _ p q l1 l2 h t => by
    have ih := rk_get (k := k) t
    by_cases e : q.1 = k
    · have e1 : p.1 = kD k := by rw [h.1, e]
      have g1 : getK (p :: l1) (kD k) = some p.2 := by simp [getK, List.find?_cons, e1]
      rw [g1]
      exact ⟨q.2, valV_pos e, h.2⟩
    · have e1 : ¬ p.1 = kD k := fun z => e (kD_inj (h.1.symm.trans z))
      have g1 : getK (p :: l1) (kD k) = getK l1 (kD k) := by simp [getK, List.find?_cons, e1]
      rw [g1, valV_neg e]
      exact ih
theorem rt_get {m : Mp} {H : Hp} {k : List Key} : ∀ {kvs : List (D × D)} {ps : List (List Key × V)}, RT g m H kvs ps → (match getK kvs (.tup (k.map kD)) with
    | some d => ∃ v, valV ps k = some v ∧ RD g m H d v
    | none => valV ps k = none)
  | _, _, .nil => rfl
  | _, _, @Paired.cons _ _ _ p q l1 l2 h t => by
    have ih := rt_get (k := k) t
    by_cases e : q.1 = k
    · have e1 : p.1 = .tup (k.map kD) := by rw [h.1, e]
      have g1 : getK (p :: l1) (.tup (k.map kD)) = some p.2 := by simp [getK, List.find?_cons, e1]
      rw [g1]
      exact ⟨q.2, valV_pos e, h.2⟩
    · have e1 : ¬ p.1 = .tup (k.map kD) := fun z => by
        have z2 := h.1.symm.trans z
        injection z2 with z2
        exact e (map_kD_inj z2)
      have g1 : getK (p :: l1) (.tup (k.map kD)) = getK l1 (.tup (k.map kD)) := by simp [getK, List.find?_cons, e1]
      rw [g1, valV_neg e]
      exact ih
theorem rt_flat {m : Mp} {H : Hp} {k : Key} : ∀ {kvs : List (D × D)} {ps : List (List Key × V)}, RT g m H kvs ps → getK kvs (kD k) = none
  | _, _, .nil => rfl
  | _, _, @Paired.cons _ _ _ p q l1 l2 h t => by
    have e1 : ¬ p.1 = kD k := fun z => by
      rw [h.1] at z
      cases k <;> cases z
    have g1 : getK (p :: l1) (kD k) = getK l1 (kD k) := by simp [getK, List.find?_cons, e1]
    rw [g1]
    exact rt_flat t
theorem rk_tup {m : Mp} {H : Hp} {k : List D} : ∀ {kvs : List (D × D)} {ps : List (Key × V)}, RK g m H kvs ps → getK kvs (.tup k) = none
  | _, _, .nil => rfl
  | _, _, @Paired.cons _ _ _ p q l1 l2 h t => by
    have e1 : ¬ p.1 = .tup k := fun z => by
      rw [h.1] at z
      have := q.1
      cases hq : q.1 <;> rw [hq] at z <;> cases z
    have g1 : getK (p :: l1) (.tup k) = getK l1 (.tup k) := by simp [getK, List.find?_cons, e1]
    rw [g1]
    exact rk_tup t
theorem d_look {m : Mp} {H : Hp} {st : Store} (S : SR g m H st) {h : Nat} {a : Addr} {kvs : List (D × D)} {dx : D} {x : V} (ha : m h = some a) (e0 : st[h]? = some (.dic kvs)) (hx : RD g m H dx x) (hk : keyD dx = true) :
    ∃ o, DGet H a x o ∧ (getK kvs dx).isSome = o.isSome ∧ ∀ d, getK kvs dx = some d → ∃ v, o = some v ∧ RD g m H d v := by
  obtain ⟨ps, h1, h2⟩ := S.get ha e0
  obtain ⟨k, rfl⟩ := key_cases hk
  rw [key_flat hx]
  have q := rk_get (k := k) h2
  refine ⟨valV ps k, DGet.k h1, ?_⟩
  cases e : getK kvs (kD k) with
  | none =>
    rw [e] at q
    exact ⟨by rw [show valV ps k = none from q]; rfl, fun d z => by cases z⟩
  | some d =>
    rw [e] at q
    obtain ⟨v, q1, q2⟩ := q
    exact ⟨by rw [q1]; rfl, fun d' z => by cases z; exact ⟨v, q1, q2⟩⟩
theorem rk_put {m : Mp} {H : Hp} {k : Key} {d : D} {v : V} (r : RD g m H d v) : ∀ {kvs : List (D × D)} {ps : List (Key × V)}, RK g m H kvs ps → RK g m H (putK kvs (kD k) d) (L2.putK ps k v) := by
  intro kvs ps h
  have any : ∀ {kvs : List (D × D)} {ps : List (Key × V)}, RK g m H kvs ps → (getK kvs (kD k)).isSome = (ps.any fun kv => decide (kv.1 = k)) := fun {kvs ps} h => by
    have q := rk_get (k := k) h
    rw [valV_any]
    cases e : getK kvs (kD k) with
    | none => rw [e] at q; rw [show valV ps k = none from q]; rfl
    | some d => rw [e] at q; obtain ⟨v, q1, _⟩ := q; rw [q1]; rfl
  unfold putK L2.putK
  rw [any h]
  cases ps.any fun kv => decide (kv.1 = k) with
  | true =>
    rw [if_pos rfl, if_pos rfl]
    clear any
    induction h with
    | nil => exact .nil
    | @cons p q l1 l2 hp t ih =>
      refine .cons ?_ ih
      by_cases e : q.1 = k
      · have e1 : p.1 = kD k := by rw [hp.1, e]
        dsimp only
        rw [if_pos e, if_pos e1]
        exact ⟨hp.1, r⟩
      · have e1 : ¬ p.1 = kD k := fun z => e (kD_inj (hp.1.symm.trans z))
        dsimp only
        rw [if_neg e, if_neg e1]
        exact hp
  | false =>
    rw [if_neg Bool.false_ne_true, if_neg Bool.false_ne_true]
    clear any
    induction h with
    | nil => exact .cons ⟨rfl, r⟩ .nil
    | cons hp t ih => exact .cons hp ih
theorem ix_dg (hu : X.A.units + 1 < cLine) : IxR X (fun x y H Q => ∃ a v, x = .ref a ∧ DGet H a y (some v) ∧ Q v H) := by
  intro value slice pins s σ H x y v u Q I rx ry h hs
  obtain ⟨a, w, rfl, dg, q⟩ := h
  cases (show v = Value.ref a from rx)
  have T := dict_typeIs I dg
  unfold subscriptTail
  refine wpAny_bind ?_
  rw [getitemInPython_of_ne T.not_modules]
  refine wpAny_bind (wpAny_specialOf T PySem.F.slot_dict_getitem.lookup ?_)
  have z : wpAny (model X.prog X.w) X.A (subscripted slice false (.ref a) u) (fun r s' => wpAny (model X.prog X.w) X.A (letTemporaryGo value (.ref a) r >>= fun _ => pure r) (EP X pins σ Q) X.xe s') X.xe s := by
    rw [hs]
    exact wpAny_operating (d_getItem hu I dg ry fun w' s' I' rw' => wpAny_bind (wpAny_letTemporaryGo (wpAny_pure ⟨w, H, I', rw', q⟩)))
  first
    | exact wpAny_pure (wpAny_bind z)
    | exact wpAny_bind (wpAny_pure (wpAny_bind z))
    | exact wpAny_bind z
def rCmp (g : G) (T : Tab) (o : Cm) : R2 := fun x y H Q => ∃ m st dx dy, SR g m H st ∧ RD g m H dx x ∧ RD g m H dy y ∧ cmpQ T st o dx dy fun b => Q (.bl b) H
theorem in_val {T : Tab} (F : Vf g T X.w) (hK : X.K = g.K) {m : Mp} {H : Hp} {st : Store} {dx dy : D} {P : Bool → Prop} (S : SR g m H st) {x y : V} (hx : RD g m H dx x) (hy : RD g m H dy y) (h : inQ T st dx dy P) :
    ∃ b, P b ∧ ((∃ i j : Str, x = .str i ∧ y = .str j ∧ b = !(Builtin.Str.occurrences j i 0 j.length 1).isEmpty) ∨ (∃ p xs, y = .ref p ∧ (SqL X.K H p xs ∨ SqT X.K H p xs) ∧ flatV x = true ∧ xs.all flatV = true ∧ b = inV x xs) ∨
      (∃ d es n z r, KDict X.K X.w d es n ∧ x = .str z ∧ y = .ref d ∧ PySem.W.nsIn X.K d z = some r ∧ b = r.isSome) ∨ ∃ a o, y = .ref a ∧ DGet H a x o ∧ b = o.isSome) := by
  unfold inQ at h
  split at h
  · cases rd_str hx
    cases rd_str hy
    refine ⟨_, h, .inl ⟨_, _, rfl, rfl, ?_⟩⟩
    rw [str_len]
  · obtain ⟨h0, a, rfl, h⟩ := h
    rename_i k
    have y1 : y = .ref (g.ka k) := hy
    subst y1
    cases rd_str hx
    have KA := F.kon k h0
    obtain ⟨es, n, D1⟩ := KA.d
    obtain ⟨r, e1, e2⟩ := KA.at_ a
    refine ⟨_, h, .inr (.inr (.inl ⟨_, es, n, _, r, hK ▸ D1, rfl, rfl, by rw [hK]; exact e1, ?_⟩))⟩
    cases q : getC (T.kon k) (.str a) with
    | none =>
      rw [q] at e2
      rw [show r = none from e2]
      rfl
    | some d =>
      rw [q] at e2
      obtain ⟨u, v, rfl, _⟩ := e2
      rfl
  · obtain ⟨f1, f2, h⟩ := h
    obtain ⟨a, vs, rfl, h1, h2⟩ := rd_tup hy
    exact ⟨_, h, .inr (.inl ⟨a, vs, rfl, .inr (hK ▸ h1), flat_val hx f1, flats_val h2 f2, (inV_val hx f1 h2 f2).symm⟩)⟩
  · split at h
    · rename_i e0
      obtain ⟨f1, f2, h⟩ := h
      obtain ⟨a, rfl, ha⟩ := rd_ref hy
      obtain ⟨vs, h1, h2⟩ := S.sqL ha (.inl e0)
      exact ⟨_, h, .inr (.inl ⟨a, vs, rfl, .inl (hK ▸ h1), flat_val hx f1, flats_val h2 f2, (inV_val hx f1 h2 f2).symm⟩)⟩
    · rename_i e0
      obtain ⟨a, rfl, ha⟩ := rd_ref hy
      obtain ⟨o, dg, eo⟩ := d_look S ha e0 hx h.1
      exact ⟨_, h.2, .inr (.inr (.inr ⟨a, o, rfl, dg, eo.1⟩))⟩
    · exact h.elim
  · exact h.elim
theorem op_cm {T : Tab} (F : Vf g T X.w) (hK : X.K = g.K) (hu : X.A.units + 64 < cLine) (o : Cm) : OpR X (compareOp (cmR o)) (rCmp g T o) := by
  intro pins s σ H x y v u Q I rx ry h
  obtain ⟨m, st, dx, dy, S, hx, hy, h⟩ := h
  cases o
  · obtain ⟨b, q, e⟩ := eq_val hK hu S hx hy h
    rcases e with ⟨e1, e2⟩ | ⟨d, e, h1, h2, h3, h4, e5⟩
    · exact op_eq pins s σ H x y v u Q I rx ry ⟨e1, by rw [← e2]; exact q⟩
    · exact op_eqD hu pins s σ H x y v u Q I rx ry ⟨d, e, h1, h2, h3, h4, by rw [← e5]; exact q⟩
  · obtain ⟨b, q, e⟩ := eq_val hK hu S hx hy h
    rcases e with ⟨e1, e2⟩ | ⟨d, e, h1, h2, h3, h4, e5⟩
    · exact op_ne pins s σ H x y v u Q I rx ry ⟨e1, by rw [← e2]; exact q⟩
    · exact op_neD hu pins s σ H x y v u Q I rx ry ⟨d, e, h1, h2, h3, h4, by rw [← e5]; exact q⟩
  · unfold cmpQ at h
    dsimp only at h
    split at h
    · cases rd_int hx
      cases rd_int hy
      exact op_lt pins s σ H _ _ v u Q I rx ry ⟨_, _, rfl, rfl, h⟩
    · exact h.elim
  · unfold cmpQ at h
    dsimp only at h
    split at h
    · cases rd_int hx
      cases rd_int hy
      exact op_le pins s σ H _ _ v u Q I rx ry ⟨_, _, rfl, rfl, h⟩
    · exact h.elim
  · unfold cmpQ at h
    dsimp only at h
    split at h
    · cases rd_int hx
      cases rd_int hy
      exact op_gt pins s σ H _ _ v u Q I rx ry ⟨_, _, rfl, rfl, h⟩
    · exact h.elim
  · unfold cmpQ at h
    dsimp only at h
    split at h
    · cases rd_int hx
      cases rd_int hy
      exact op_ge pins s σ H _ _ v u Q I rx ry ⟨_, _, rfl, rfl, h⟩
    · exact h.elim
  · obtain ⟨b, q, e⟩ := in_val F hK S hx hy h
    rcases e with ⟨i, j, rfl, rfl, e⟩ | ⟨p, xs, rfl, h1, h2, h3, e⟩ | ⟨d, es, n, z, r, h1, rfl, rfl, h2, e⟩ | ⟨a, o, rfl, dg, e⟩
    · exact op_in_str pins s σ H _ _ v u Q I rx ry ⟨i, j, rfl, rfl, by rw [← e]; exact q⟩
    · exact op_in_seq pins s σ H _ _ v u Q I rx ry ⟨p, xs, rfl, h1, h2, h3, by rw [← e]; exact q⟩
    · exact op_in_kd h1 pins s σ H _ _ v u Q I rx ry ⟨z, r, rfl, rfl, h2, by rw [← e]; exact q⟩
    · cases (show u = Value.ref a from ry)
      exact d_in (by omega) I dg rx fun s' I' => ⟨.bl o.isSome, H, I', rfl, by rw [← e]; exact q⟩
  · obtain ⟨b, q, e⟩ := in_val F hK S hx hy h
    rcases e with ⟨i, j, rfl, rfl, e⟩ | ⟨p, xs, rfl, h1, h2, h3, e⟩ | ⟨d, es, n, z, r, h1, rfl, rfl, h2, e⟩ | ⟨a, o, rfl, dg, e⟩
    · exact op_notin_str pins s σ H _ _ v u Q I rx ry ⟨i, j, rfl, rfl, by rw [← e]; exact q⟩
    · exact op_notIn_seq pins s σ H _ _ v u Q I rx ry ⟨p, xs, rfl, h1, h2, h3, by rw [← e]; exact q⟩
    · exact op_notIn_kd h1 pins s σ H _ _ v u Q I rx ry ⟨z, r, rfl, rfl, h2, by rw [← e]; exact q⟩
    · cases (show u = Value.ref a from ry)
      exact d_notIn (by omega) I dg rx fun s' I' => ⟨.bl (!o.isSome), H, I', rfl, by rw [← e]; exact q⟩
theorem tru_val (hK : X.K = g.K) {m : Mp} {H : Hp} {st : Store} {d : D} {v : V} {P : Bool → Prop} (S : SR g m H st) (r : RD g m H d v) (h : truQ st d P) : ∃ k, TruV X.K v H k ∧ P k := by
  unfold truQ at h
  split at h
  · cases rd_non r
    exact ⟨false, rfl, h⟩
  · cases rd_bl r
    exact ⟨_, rfl, h⟩
  · cases rd_int r
    exact ⟨_, rfl, h⟩
  · cases rd_str r
    rename_i x
    refine ⟨_, ⟨by rw [str_len]; exact h.1, ?_⟩, h.2⟩
    rw [str_len]
    cases x with
    | nil => rfl
    | cons c x =>
      show true = (((c :: x).length : Int) != 0)
      have : ((c :: x).length : Int) ≠ 0 := by
        rw [List.length_cons]
        omega
      exact (bne_iff_ne.mpr this).symm
  · obtain ⟨a, vs, rfl, h1, h2⟩ := rd_tup r
    refine ⟨_, .inr (.inl ⟨vs, hK ▸ h1, rfl⟩), ?_⟩
    have e := h2.length
    rename_i ds
    cases ds <;> cases vs <;> first | exact h | (simp at e)
  · split at h
    · rename_i ds e0
      obtain ⟨a, rfl, ha⟩ := rd_ref r
      obtain ⟨vs, h1, h2⟩ := S.sqL ha (.inl e0)
      refine ⟨_, .inl ⟨vs, hK ▸ h1, rfl⟩, ?_⟩
      have e := h2.length
      cases ds <;> cases vs <;> first | exact h | (simp at e)
    · exact h.elim
  · exact h.elim
def prV : Pr → Value
  | .len => .builtin "len" | .abs => .builtin "abs" | .max2 => .builtin "max" | .min2 => .builtin "min" | .any => .builtin "any" | .all => .builtin "all" | .sum => .builtin "sum" | .max => .builtin "max" | .min => .builtin "min"
  | .int => .type "int" | .str => .type "str" | .tuple => .type "tuple" | .list => .type "list" | .bool => .type "bool"
def rPr (g : G) (p : Pr) : List V → Hp → VK → Prop := fun xs H Q => ∃ m st ds, SR g m H st ∧ RDs g m H ds xs ∧ prQ p ds st (Wn g m H Q)
theorem bls_of {m : Mp} {H : Hp} : ∀ {bs : List Bool} {vs : List V}, RDs g m H (bs.map D.bl) vs → vs = bs.map V.bl
  | [], _, h => h
  | b :: bs, _, h => by
    obtain ⟨v, r, rfl, h2, h3⟩ := h
    cases rd_bl h2
    rw [bls_of h3]
    rfl
theorem call_pr (hK : X.K = g.K) (hc : X.calm = true) (p : Pr) : CallR X (prV p) (rPr g p) := by
  intro pins s σ H xs us Q I r h
  obtain ⟨m, st, ds, S, hd, h⟩ := h
  unfold prQ at h
  split at h
  · obtain ⟨v, rfl, h1⟩ := hd.un1
    cases rd_str h1
    refine call_len pins s σ H _ us Q I r ⟨_, _, rfl, ⟨by rw [str_len]; exact h.1, rfl⟩, ?_⟩
    rw [str_len]
    exact Wn.int S h.2
  · obtain ⟨v, rfl, h1⟩ := hd.un1
    obtain ⟨a, vs, rfl, h2, h3⟩ := rd_tup h1
    refine call_len pins s σ H _ us Q I r ⟨_, _, rfl, .inr ⟨vs, hK ▸ h2, rfl⟩, ?_⟩
    rw [h3.length]
    exact Wn.int S h
  · obtain ⟨v, rfl, h1⟩ := hd.un1
    obtain ⟨a, rfl, ha⟩ := rd_ref h1
    split at h
    · rename_i e0
      obtain ⟨vs, h2, h3⟩ := S.sqL ha (.inl e0)
      refine call_len pins s σ H _ us Q I r ⟨_, _, rfl, .inl ⟨vs, hK ▸ h2, rfl⟩, ?_⟩
      rw [h3.length]
      exact Wn.int S h
    · rename_i e0
      obtain ⟨vs, h2, h3⟩ := S.sqL ha (.inr e0)
      refine call_len pins s σ H _ us Q I r ⟨_, _, rfl, .inl ⟨vs, hK ▸ h2, rfl⟩, ?_⟩
      rw [h3.length]
      exact Wn.int S h
    · rename_i e0
      obtain ⟨ps, h2, h3⟩ := S.get ha e0
      refine call_lenD pins s σ H _ us Q I r ⟨a, ps, rfl, h2, ?_⟩
      rw [← Paired.length h3]
      exact Wn.int S h
    · exact h.elim
  · obtain ⟨v, rfl, h1⟩ := hd.un1
    cases rd_int h1
    exact call_int1 pins s σ H _ us Q I r (.inl ⟨_, rfl, Wn.int S h⟩)
  · obtain ⟨v, rfl, h1⟩ := hd.un1
    cases rd_bl h1
    exact call_int1 pins s σ H _ us Q I r (.inr ⟨_, rfl, Wn.int S h⟩)
  · obtain ⟨v, rfl, h1⟩ := hd.un1
    cases rd_str h1
    obtain ⟨n, e1, e2, h⟩ := h
    exact call_int_str pins s σ H _ us Q I r ⟨_, n, rfl, e1, by rw [str_len]; exact e2, Wn.int S h⟩
  · obtain ⟨v, rfl, h1⟩ := hd.un1
    cases rd_int h1
    refine call_str_int pins s σ H _ us Q I r ⟨_, rfl, h.1, ?_⟩
    have q := Wn.str S h.2
    unfold decI at q
    rw [str_codes] at q
    exact q
  · obtain ⟨v, rfl, h1⟩ := hd.un1
    cases rd_int h1
    exact call_abs pins s σ H _ us Q I r ⟨_, rfl, Wn.int S h⟩
  · obtain ⟨v, w, rfl, h1, h2⟩ := hd.two
    cases rd_int h1
    cases rd_int h2
    exact call_max2 hc pins s σ H _ us Q I r ⟨_, _, rfl, Wn.int S h⟩
  · obtain ⟨v, w, rfl, h1, h2⟩ := hd.two
    cases rd_int h1
    cases rd_int h2
    exact call_min2 hc pins s σ H _ us Q I r ⟨_, _, rfl, Wn.int S h⟩
  · obtain ⟨v, rfl, h1⟩ := hd.un1
    have h0 := h1
    obtain ⟨a, vs, rfl, h2, h3⟩ := rd_tup h1
    exact call_tuple_of pins s σ H _ us Q I r ⟨a, vs, rfl, .inr ⟨hK ▸ h2, Wn.here S h0 h⟩⟩
  · obtain ⟨v, rfl, h1⟩ := hd.un1
    obtain ⟨a, rfl, ha⟩ := rd_ref h1
    split at h
    · rename_i e0
      obtain ⟨vs, h2, h3⟩ := S.sqL ha (.inl e0)
      exact call_tuple_of pins s σ H _ us Q I r ⟨a, vs, rfl, .inl ⟨hK ▸ h2, fun p n => Wn.tup S n h3 h⟩⟩
    · rename_i e0
      obtain ⟨vs, h2, h3⟩ := S.sqL ha (.inr e0)
      exact call_tuple_of pins s σ H _ us Q I r ⟨a, vs, rfl, .inl ⟨hK ▸ h2, fun p n => Wn.tup S n h3 h⟩⟩
    · exact h.elim
  · obtain ⟨v, rfl, h1⟩ := hd.un1
    obtain ⟨a, vs, rfl, h2, h3⟩ := rd_tup h1
    exact call_list_of pins s σ H _ us Q I r ⟨a, vs, rfl, .inr (hK ▸ h2), fun p n => Wn.new S n rfl (ro_lst (n := 0) S n h3) h⟩
  · obtain ⟨v, rfl, h1⟩ := hd.un1
    obtain ⟨a, rfl, ha⟩ := rd_ref h1
    split at h
    · rename_i e0
      obtain ⟨vs, h2, h3⟩ := S.sqL ha (.inl e0)
      exact call_list_of pins s σ H _ us Q I r ⟨a, vs, rfl, .inl (hK ▸ h2), fun p n => Wn.new S n rfl (ro_lst (n := 0) S n h3) h⟩
    · rename_i e0
      obtain ⟨vs, h2, h3⟩ := S.sqL ha (.inr e0)
      exact call_list_of pins s σ H _ us Q I r ⟨a, vs, rfl, .inl (hK ▸ h2), fun p n => Wn.new S n rfl (ro_lst (n := 0) S n h3) h⟩
    · exact h.elim
  · obtain ⟨v, rfl, h1⟩ := hd.un1
    obtain ⟨a, rfl, ha⟩ := rd_ref h1
    split at h
    · rename_i e0
      obtain ⟨bs, rfl, h⟩ := h
      obtain ⟨vs, h2, h3⟩ := S.sqL ha (.inl e0)
      have e := bls_of h3
      subst e
      exact cr_any hc pins s σ H _ us Q I r ⟨a, bs, rfl, hK ▸ h2, Wn.bl S h⟩
    · exact h.elim
  · obtain ⟨v, rfl, h1⟩ := hd.un1
    obtain ⟨a, rfl, ha⟩ := rd_ref h1
    split at h
    · rename_i e0
      obtain ⟨bs, rfl, h⟩ := h
      obtain ⟨vs, h2, h3⟩ := S.sqL ha (.inl e0)
      have e := bls_of h3
      subst e
      exact cr_all hc pins s σ H _ us Q I r ⟨a, bs, rfl, hK ▸ h2, Wn.bl S h⟩
    · exact h.elim
  · obtain ⟨v, rfl, h1⟩ := hd.un1
    cases rd_int h1
    exact call_bool1 pins s σ H _ us Q I r (.inl ⟨_, rfl, Wn.bl S h⟩)
  · obtain ⟨v, rfl, h1⟩ := hd.un1
    cases rd_bl h1
    exact call_bool1 pins s σ H _ us Q I r (.inr ⟨_, rfl, Wn.bl S h⟩)
  · exact h.elim
def meI : Me → String × String × Str
  | .append => ("list", "list.append", "append") | .pop => ("list", "list.pop", "pop") | .popAt => ("list", "list.pop", "pop") | .insert => ("list", "list.insert", "insert")
  | .extend => ("list", "list.extend", "extend") | .reverse => ("list", "list.reverse", "reverse") | .clear => ("list", "list.clear", "clear") | .index => ("list", "list.index", "index")
  | .get1 => ("dict", "dict.get", "get") | .get2 => ("dict", "dict.get", "get") | .setdefault => ("dict", "dict.setdefault", "setdefault") | .split => ("str", "str.split", "split") | .join => ("str", "str.join", "join")
def rMe (g : G) (m' : Me) : V → List V → Hp → VK → Prop := fun x xs H Q => ∃ m st d ds, SR g m H st ∧ RD g m H d x ∧ RDs g m H ds xs ∧ meQ m' d ds st (Wn g m H Q)
theorem strs_of {m : Mp} {H : Hp} : ∀ {ys : List (List Nat)} {vs : List V}, RDs g m H (ys.map D.str) vs → vs = (ys.map fun y => (⟨y.toArray⟩ : Str)).map V.str
  | [], _, h => h
  | b :: bs, _, h => by
    obtain ⟨v, r, rfl, h2, h3⟩ := h
    cases rd_str h2
    rw [strs_of h3]
    rfl
theorem rds_strs {m : Mp} {H : Hp} : ∀ ys : List Str, RDs g m H (ys.map fun z => D.str z.cps.toList) (ys.map V.str)
  | [] => rfl
  | y :: ys => ⟨_, _, rfl, by show V.str y = V.str ⟨y.cps.toList.toArray⟩; rw [str_codes], rds_strs ys⟩
theorem len_map (ys : List (List Nat)) : ((ys.map fun y => (⟨y.toArray⟩ : Str)).map (·.length)) = ys.map List.length := by
  rw [List.map_map]
  exact List.map_congr_left fun y _ => str_len y
theorem mt_me (hK : X.K = g.K) (mm : Me) : MtR X (meI mm).2.1 (rMe g mm) := by
  intro pins s σ H x xs v us Q I rx rs h
  obtain ⟨m, st, d, ds, S, hx, hd, h⟩ := h
  unfold meQ at h
  split at h
  · obtain ⟨a, rfl, ha⟩ := rd_ref hx
    obtain ⟨w, rfl, h1⟩ := hd.un1
    split at h
    · rename_i e0
      obtain ⟨vs, h2, h3⟩ := S.lst ha e0
      refine mt_append pins s σ H _ _ v us Q I rx rs ⟨a, vs, w, rfl, rfl, h2, by rw [h3.length]; exact h.1, ?_⟩
      exact Wn.wrl S ha e0 h2 h.2 rfl (h3.app (.one h1))
    · exact h.elim
  · obtain ⟨a, rfl, ha⟩ := rd_ref hx
    cases (show xs = [] from hd)
    split at h
    · rename_i e0
      obtain ⟨y, e1, h⟩ := h
      obtain ⟨vs, h2, h3⟩ := S.lst ha e0
      obtain ⟨w, e2, rw2⟩ := h3.get e1
      refine mt_pop pins s σ H _ _ v us Q I rx rs ⟨a, vs, w, rfl, rfl, h2, by rw [h3.length]; exact e2, ?_⟩
      exact Wn.wrl S ha e0 h2 h rw2 h3.dropLast
    · exact h.elim
  · obtain ⟨a, rfl, ha⟩ := rd_ref hx
    cases (show xs = [] from hd)
    split at h
    · rename_i e0
      obtain ⟨vs, h2, h3⟩ := S.lst ha e0
      refine mt_reverse pins s σ H _ _ v us Q I rx rs ⟨a, vs, rfl, rfl, h2, ?_⟩
      exact Wn.wrl S ha e0 h2 h rfl h3.rev
    · exact h.elim
  · obtain ⟨a, rfl, ha⟩ := rd_ref hx
    cases (show xs = [] from hd)
    split at h
    · rename_i e0
      obtain ⟨vs, h2, h3⟩ := S.lst ha e0
      refine mt_clear pins s σ H _ _ v us Q I rx rs ⟨a, vs, rfl, rfl, h2, ?_⟩
      exact Wn.wrl S ha e0 h2 h rfl RDs.nil
    · exact h.elim
  · cases rd_str hx
    obtain ⟨w, rfl, h1⟩ := hd.un1
    cases rd_str h1
    obtain ⟨e1, e2, h⟩ := h
    refine mt_split pins s σ H _ _ v us Q I rx rs ⟨_, _, rfl, rfl, by rw [str_len]; exact beq_eq_false_iff_ne.mpr e1, by rw [str_len]; exact e2, fun p n => ?_⟩
    exact Wn.newl S n h (rds_strs _)
  · cases rd_str hx
    obtain ⟨w, rfl, h1⟩ := hd.un1
    obtain ⟨ys, e1, e2, h⟩ := h
    have q : ∃ p, w = .ref p ∧ (SqL X.K H p ((ys.map fun y => (⟨y.toArray⟩ : Str)).map V.str) ∨ SqT X.K H p ((ys.map fun y => (⟨y.toArray⟩ : Str)).map V.str)) := by
      unfold seqOf at e1
      split at e1
      · obtain ⟨a, vs, rfl, h2, h3⟩ := rd_tup h1
        cases e1
        have e := strs_of h3
        subst e
        exact ⟨a, rfl, .inr (hK ▸ h2)⟩
      · obtain ⟨a, rfl, ha⟩ := rd_ref h1
        split at e1
        · rename_i e0
          cases e1
          obtain ⟨vs, h2, h3⟩ := S.sqL ha (.inl e0)
          have e := strs_of h3
          subst e
          exact ⟨a, rfl, .inl (hK ▸ h2)⟩
        · rename_i e0
          cases e1
          obtain ⟨vs, h2, h3⟩ := S.sqL ha (.inr e0)
          have e := strs_of h3
          subst e
          exact ⟨a, rfl, .inl (hK ▸ h2)⟩
        · cases e1
      · cases e1
    obtain ⟨p, rfl, hp⟩ := q
    refine mt_join pins s σ H _ _ v us Q I rx rs ⟨_, p, _, rfl, rfl, hp, ?_, ?_⟩
    · rw [len_map, List.length_map, str_len]
      exact e2
    · have q := Wn.str S h
      rw [str_codes] at q
      exact q
  · obtain ⟨a, rfl, ha⟩ := rd_ref hx
    obtain ⟨w, rfl, h1⟩ := hd.un1
    cases rd_int h1
    split at h
    · rename_i e0
      obtain ⟨rfl, h⟩ := h
      obtain ⟨vs, h2, h3⟩ := S.lst ha e0
      obtain ⟨v0, r0, rfl, rv, h3⟩ := h3
      refine mt_popAt pins s σ H _ _ v us Q I rx rs ⟨a, _, 0, 0, v0, rfl, rfl, h2, by decide, by decide, (by simp [seqIndex?]), rfl, ?_⟩
      exact Wn.wrl S ha e0 h2 h rv h3
    · exact h.elim
  · exact h.elim
def rIdx (g : G) (T : Tab) : R2 := fun x y H Q => ∃ m st dx dy, SR g m H st ∧ RD g m H dx x ∧ RD g m H dy y ∧ idxQ T st dx dy (Wn g m H Q)
theorem ix_kd {d : Addr} {es : Array DictEntry} {n : Nat} (D1 : KDict X.K X.w d es n) : IxR X (fun x y H Q => ∃ (z : Str) (u0 : Value) (v0 : V), x = .ref d ∧ y = .str z ∧ PySem.W.nsIn X.K d z = some (some u0) ∧ RelV v0 u0 ∧ Q v0 H) := by
  intro value slice pins s σ H x y v u Q I rx ry h hs
  have hx : x = .ref d := let ⟨_, _, _, a, _⟩ := h; a
  subst hx
  cases (show v = Value.ref d from rx)
  unfold subscriptTail
  refine wpAny_bind ?_
  rw [getitemInPython_of_ne (kd_type D1 I).not_modules]
  refine wpAny_bind (wpAny_specialOf (kd_type D1 I) PySem.F.slot_dict_getitem.lookup ?_)
  have z : wpAny (model X.prog X.w) X.A (subscripted slice false (.ref d) u) (fun r s' => wpAny (model X.prog X.w) X.A (letTemporaryGo value (.ref d) r >>= fun _ => pure r) (EP X pins σ Q) X.xe s') X.xe s := by
    rw [hs]
    refine wpAny_operating (wpAny_mono (op_item_kd D1 pins s σ H (.ref d) y (.ref d) u Q I rfl ry h) (fun r s' hr => ?_) fun _ _ q => q)
    exact wpAny_bind (wpAny_letTemporaryGo (wpAny_pure hr))
  first
    | exact wpAny_pure (wpAny_bind z)
    | exact wpAny_bind (wpAny_pure (wpAny_bind z))
    | exact wpAny_bind z
theorem ix_any {T : Tab} (F : Vf g T X.w) (hK : X.K = g.K) (hu : X.A.units + 1 < cLine) : IxR X (rIdx g T) := by
  intro value slice pins s σ H x y v u Q I rx ry h hs
  obtain ⟨m, st, dx, dy, S, hx, hy, h⟩ := h
  unfold idxQ at h
  split at h
  · cases rd_str hx
    cases rd_int hy
    obtain ⟨h0, h⟩ := h
    split at h
    · rename_i z i _ j e
      obtain ⟨c, e2, h⟩ := h
      refine ix_str value slice pins s σ H _ _ v u Q I rx ry ⟨_, _, c, rfl, rfl, by rw [str_len]; exact h0, ?_, Wn.str S h⟩ hs
      show atI z.toArray.toList i = some c
      rw [List.toList_toArray]
      exact at_ix e e2
    · exact h.elim
  · obtain ⟨a, vs, rfl, h1, h2⟩ := rd_tup hx
    cases rd_int hy
    split at h
    · rename_i j e
      obtain ⟨c, e2, h⟩ := h
      obtain ⟨w, e3, rw3⟩ := h2.get e2
      exact ix_tup value slice pins s σ H _ _ v u Q I rx ry ⟨a, vs, _, w, rfl, rfl, hK ▸ h1, at_ix (by rw [h2.length]; exact e) e3, Wn.here S rw3 h⟩ hs
    · exact h.elim
  · obtain ⟨d, e, h⟩ := h
    rename_i k
    have x1 : x = .ref (g.ka k) := hx
    subst x1
    have h0 : T.kon k ≠ [] := fun z => by
      rw [z] at e
      unfold getC at e
      split at e <;> cases e
    have KA := F.kon k h0
    obtain ⟨es, n, D1⟩ := KA.d
    obtain ⟨z, rfl⟩ : ∃ z, dy = .str z := by
      unfold getC at e
      split at e
      · exact ⟨_, rfl⟩
      · cases e
    cases rd_str hy
    obtain ⟨r, e1, e2⟩ := KA.at_ z
    rw [e] at e2
    obtain ⟨u0, v0, rfl, r1, r2⟩ := e2
    exact ix_kd (hK ▸ D1) value slice pins s σ H _ _ v u Q I rx ry ⟨_, u0, v0, rfl, rfl, by rw [hK]; exact e1, r1, Wn.here S (r2 m H) h⟩ hs
  · obtain ⟨a, rfl, ha⟩ := rd_ref hx
    split at h
    · rename_i e0
      obtain ⟨i, rfl, h⟩ := h
      cases rd_int hy
      obtain ⟨vs, h1, h2⟩ := S.sqL ha (.inl e0)
      split at h
      · rename_i j e
        obtain ⟨c, e2, h⟩ := h
        obtain ⟨w, e3, rw3⟩ := h2.get e2
        exact ix_list value slice pins s σ H _ _ v u Q I rx ry ⟨a, vs, _, w, rfl, rfl, hK ▸ h1, at_ix (by rw [h2.length]; exact e) e3, Wn.here S rw3 h⟩ hs
      · exact h.elim
    · rename_i e0
      obtain ⟨i, rfl, h⟩ := h
      cases rd_int hy
      obtain ⟨vs, h1, h2⟩ := S.sqL ha (.inr e0)
      split at h
      · rename_i j e
        obtain ⟨c, e2, h⟩ := h
        obtain ⟨w, e3, rw3⟩ := h2.get e2
        exact ix_list value slice pins s σ H _ _ v u Q I rx ry ⟨a, vs, _, w, rfl, rfl, hK ▸ h1, at_ix (by rw [h2.length]; exact e) e3, Wn.here S rw3 h⟩ hs
      · exact h.elim
    · rename_i e0
      obtain ⟨kd, c, e2, h⟩ := h
      obtain ⟨o, dg, _, eo⟩ := d_look S ha e0 hy kd
      obtain ⟨w, rfl, rw3⟩ := eo c e2
      exact ix_dg hu value slice pins s σ H _ _ v u Q I rx ry ⟨a, w, rfl, dg, Wn.here S rw3 h⟩ hs
    · exact h.elim
  · exact h.elim
def rSli (g : G) : V → Option Int → Option Int → Hp → VK → Prop := fun x lo hi H Q => ∃ m st dx, SR g m H st ∧ RD g m H dx x ∧ sliQ st dx lo hi (Wn g m H Q)
theorem RDs.cut {m : Mp} {H : Hp} {ds : List D} {vs : List V} (h : RDs g m H ds vs) (lo hi : Option Int) : RDs g m H (cutL ds lo hi) (cutV vs lo hi) := by
  show RDs g m H ((ds.drop (HT.sIx ds.length 0 lo)).take (HT.sIx ds.length ds.length hi - HT.sIx ds.length 0 lo)) ((vs.drop (HT.sIx vs.length 0 lo)).take (HT.sIx vs.length vs.length hi - HT.sIx vs.length 0 lo))
  rw [h.length]
  exact (h.drop _).take _
theorem sl_any (hK : X.K = g.K) : SlR X (rSli g) := by
  intro pins s σ H x v vl vu lo hi sl Q I rx hs pl pu h
  obtain ⟨m, st, dx, S, hx, h⟩ := h
  unfold sliQ at h
  split at h
  · cases rd_str hx
    rename_i z
    refine sl_str pins s σ H _ v vl vu lo hi sl Q I rx hs pl pu ⟨_, rfl, by rw [str_len]; exact h.1, ?_⟩
    have q := Wn.str S h.2
    unfold cutS
    rw [str_len, List.toList_toArray]
    exact q
  · obtain ⟨a, vs, rfl, h1, h2⟩ := rd_tup hx
    refine sl_tupA pins s σ H _ v vl vu lo hi sl Q I rx hs pl pu ⟨a, vs, rfl, hK ▸ h1, fun e => ?_, fun _ p n => Wn.tup S n (h2.cut lo hi) h⟩
    have q := h2.cut lo hi
    have e3 : cutV vs lo hi = vs := by
      unfold cutV
      rw [e.1, e.2, List.drop_zero, Nat.sub_zero, List.take_length]
    rw [e3] at q
    exact h m H _ (.refl _ _) S ⟨a, vs, rfl, h1, q⟩
  · obtain ⟨a, rfl, ha⟩ := rd_ref hx
    split at h
    · rename_i e0
      obtain ⟨vs, h1, h2⟩ := S.sqL ha (.inl e0)
      exact sl_list pins s σ H _ v vl vu lo hi sl Q I rx hs pl pu ⟨a, vs, rfl, hK ▸ h1, fun p n => Wn.new S n rfl (ro_lst (n := 0) S n (h2.cut lo hi)) h⟩
    · rename_i e0
      obtain ⟨vs, h1, h2⟩ := S.sqL ha (.inr e0)
      exact sl_list pins s σ H _ v vl vu lo hi sl Q I rx hs pl pu ⟨a, vs, rfl, hK ▸ h1, fun p n => Wn.new S n rfl (ro_lst (n := 0) S n (h2.cut lo hi)) h⟩
    · exact h.elim
  · exact h.elim
def rSet (g : G) : TSet := fun o i v H Q => ∃ m st do_ di dv, SR g m H st ∧ RD g m H do_ o ∧ RD g m H di i ∧ RD g m H dv v ∧ setQ st do_ di dv fun s => ∀ m' H', Ext m m' H H' → SR g m' H' s → Q H'
theorem set_any (hu : X.A.units + 1 < cLine) : PSet X (rSet g) := by
  intro pins s σ H o i v ov iv u Q I ro ri rv h
  obtain ⟨m, st, d1, d2, d3, S, h1, h2, h3, h⟩ := h
  unfold setQ at h
  split at h
  · obtain ⟨a, rfl, ha⟩ := rd_ref h1
    split at h
    · rename_i e0
      obtain ⟨k, j, rfl, e, h⟩ := h
      cases rd_int h2
      obtain ⟨vs, k1, k2⟩ := S.lst ha e0
      refine set_list pins s σ H _ _ v ov iv u Q I ro ri rv ⟨a, vs, k, j, rfl, rfl, k1, by rw [k2.length]; exact e, ?_⟩
      have x : Ext m m H (upd H a (.lst (vs.set j v))) := ext_mut (by rw [k1]; trivial)
      exact h _ _ x (S.write ha e0 rfl rfl ⟨_, upd_same, RDs.mono x _ _ (k2.set j h3)⟩)
    · rename_i kvs e0
      obtain ⟨hk, hl, h⟩ := h
      obtain ⟨ps, k1, k2⟩ := S.get ha e0
      obtain ⟨k, rfl⟩ := key_cases hk
      rw [key_flat h2] at ri
      have len : ps.length < sizeLine := by rw [← Paired.length k2]; exact hl
      refine set_dict hu pins s σ H _ _ v ov iv u Q I ro ri rv ⟨a, _, rfl, DPut.k k1 len, ?_⟩
      have x : Ext m m H (upd H a (.dK (L2.putK ps k v))) := ext_mut (by rw [k1]; trivial)
      exact h _ _ x (S.write ha e0 rfl rfl ⟨_, upd_same, (rk_put h3 k2).mono x⟩)
    · exact h.elim
  · exact h.elim
end
end Y
set_option linter.all false
set_option maxHeartbeats 4000000
set_option maxRecDepth 100000
namespace Y
open PySem PySem.Spec PyProof.Rows L2
structure Nm where
  fn : Nat → Option Str
  gl : Nat → Option Str
  cl : Nat → Option Str
  ex : Nat → Option Str
  fd : Nat → Option Str
  mk_ : Nat → Option Nat
  df : Nat → List D
  mt : Nat → Nat → Option Str
structure Sta where
  N : List Str
  sc : Scope
def visB (S : Sta) (x : Str) : Bool := match S.sc.names.lookup x with
  | some .local => true | some .cell => true | some .free => true
  | _ => false
def locB (S : Sta) (x : Str) : Bool := match S.sc.names.lookup x with
  | some .local => true | some .cell => true
  | _ => false
def gloB (S : Sta) (x : Str) : Bool := match S.sc.names.lookup x with
  | some .globalImplicit => true
  | _ => false
def okN (x : Str) : Bool := !(x == ("__debug__" : Str)) && !(x == ("__classdict__" : Str))
def conB : D → Const → Bool
  | .non, .none => true
  | .bl b, .bool c => b == c
  | .int i, .int j => decide (i = j)
  | .str x, .str y => decide (y = ⟨x.toArray⟩)
  | _, _ => false
def opB : Op → Operator → Bool
  | .add, .Add => true | .sub, .Sub => true | .mul, .Mult => true | .fdiv, .FloorDiv => true | .mod, .Mod => true | .pow, .Pow => true
  | _, _ => false
theorem opB_ok {o : Op} {p : Operator} (h : opB o p = true) : p = opR o := by
  cases o <;> cases p <;> first | rfl | cases h
def cmB : Cm → CmpOp → Bool
  | .eq, .Eq => true | .ne, .NotEq => true | .lt, .Lt => true | .le, .LtE => true | .gt, .Gt => true | .ge, .GtE => true | .inn, .In => true | .nin, .NotIn => true
  | _, _ => false
theorem cmB_ok {o : Cm} {p : CmpOp} (h : cmB o p = true) : p = cmR o := by
  cases o <;> cases p <;> first | rfl | cases h
def noSet : Expr → Bool
  | .Set .. => false
  | _ => true
theorem noSet_mark {op : CmpOp} {e : Expr} (h : noSet e = true) : behindInMarks op e = false := by
  cases e <;> first | rfl | cases h
theorem noSet_fold {e : Expr} {env : PySem.Env} (h : noSet e = true) (x : Value) : foldedSetIterable e env x = pure x := by
  cases e <;> first | rfl | cases h
def noStar : Expr → Bool
  | .Starred .. => false
  | _ => true
theorem star_cons {e : Expr} {es : List Expr} {env : PySem.Env} (h : noStar e = true) : starEach (e :: es) env = (false, eval e env) :: starEach es env := by
  cases e <;> first | rfl | cases h
def noStars (es : List Expr) : Bool := es.all noStar
theorem star_any {pos : Pos} {env : PySem.Env} : ∀ {es : List Expr}, noStars es = true → (backTo pos (starEach es env)).any (·.1) = false
  | [], _ => rfl
  | e :: es, h => by
    have h2 : (noStar e && noStars es) = true := h
    rw [Bool.and_eq_true] at h2
    rw [star_cons h2.1]
    show (false || (backTo pos (starEach es env)).any (·.1)) = false
    rw [star_any h2.2]
    rfl
theorem star_len {pos : Pos} {env : PySem.Env} : ∀ {es : List Expr}, noStars es = true → (backTo pos (starEach es env)).all (fun x => !x.1) = true
  | [], _ => rfl
  | e :: es, h => by
    have h2 : (noStar e && noStars es) = true := h
    rw [Bool.and_eq_true] at h2
    rw [star_cons h2.1]
    show (true && (backTo pos (starEach es env)).all (fun x => !x.1)) = true
    rw [star_len h2.2]
    rfl
def dotB : Expr → Bool
  | .Call (.Name _ _) [] [] _ => false
  | _ => true
theorem dot_base {o : Expr} {f : Str} {env : PySem.Env} {wh : Sem Value} (h : dotB o = true) : attributeBase o f env wh = wh := by
  unfold attributeBase
  split
  · cases h
  · rfl
def tvB : Expr → Bool
  | .UnaryOp .Not _ _ => false
  | .BoolOp .. => false
  | .IfExp .. => false
  | .Compare .. => false
  | _ => true
theorem tv_true {e : Expr} {env : PySem.Env} (h : tvB e = true) (wh : Sem Value) : isTrue e env wh = (do let v ← wh; standAt e.pos; holding [v] (truthy v)) := by
  cases e <;> first
    | rfl
    | (cases h; done)
    | (rename_i op x p
       cases op <;> first | rfl | cases h)
def ixB : Expr → Bool
  | .Slice .. => false
  | _ => true
theorem ix_plain {e : Expr} (h : ixB e = true) : PlainIx e := by
  intro o i
  cases e <;> first | rfl | cases h
def prN : Pr → Str
  | .len => "len" | .int => "int" | .str => "str" | .abs => "abs" | .max2 => "max" | .min2 => "min" | .tuple => "tuple" | .list => "list" | .any => "any" | .all => "all" | .sum => "sum" | .max => "max" | .min => "min" | .bool => "bool"
def tyN : Ty → Option Str
  | .int => some "int" | .str => some "str" | .bool => some "bool" | .tuple => some "tuple" | .list => some "list" | .dict => some "dict"
  | .own _ => none
def bltNames : List Str := ["len", "int", "str", "abs", "max", "min", "tuple", "list", "any", "all", "sum", "bool", "isinstance", "range", "enumerate", "zip", "dict", "sorted", "reversed"]
def tailB (op : PySem.BoolOp) (l : List Expr) (pos : Pos) : Expr := match l with
  | [x] => x
  | l => .BoolOp op l pos
def ownP (S : Sta) (own : List Nat) : List (Str × Nat) := own.map fun i => (S.N.getD i "", i)
def blkS (S : Sta) (sc : Scope) : Sta := ⟨S.N, relS sc S.sc⟩
def tgVs : Tg → List Nat
  | .nm i => [i]
  | .tp is => is
def stB (S : Sta) (raw : Option Scope) (x : Str) : Bool := locB S x && (match raw with
  | none => true
  | some sc => (match S.sc.names.lookup x with
    | some .local => true
    | _ => (match sc.names.lookup x with
      | some .cell => true
      | _ => false)))
def ckTg (S : Sta) (raw : Option Scope) : Tg → Expr → Bool
  | .nm i, .Name x _ => decide (S.N[i]? = some x) && stB S raw x
  | .tp is, .Tuple es _ _ => decide (es.length = is.length) && (is.zip es).all fun p => match p.2 with
    | .Name x _ => decide (S.N[p.1]? = some x) && stB S raw x
    | _ => false
  | _, _ => false
def ckTy (n : Nm) (S : Sta) (t : Ty) : Expr → Bool
  | .Name x _ => gloB S x && okN x && (match t with
    | .own c => decide (n.cl c = some x)
    | t => decide (tyN t = some x))
  | _ => false
mutual
def ckE (n : Nm) : E → Sta → Expr → Bool
  | .var i, S, ex => (match ex with
    | .Name x _ => decide (S.N[i]? = some x) && visB S x && okN x
    | _ => false)
  | .con d, S, ex => (match ex with
    | .Constant c _ _ => conB d c
    | _ => false)
  | .glo k, S, ex => (match ex with
    | .Name x _ => decide (n.gl k = some x) && gloB S x && okN x
    | _ => false)
  | .bin o a b, S, ex => (match ex with
    | .BinOp ea op eb _ => opB o op && ckE n a S ea && ckE n b S eb
    | _ => false)
  | .neg a, S, ex => (match ex with
    | .UnaryOp .USub ea _ => ckE n a S ea
    | _ => false)
  | .cmp o a b, S, ex => (match ex with
    | .Compare ea [op] [eb] _ => cmB o op && noSet eb && ckE n a S ea && ckE n b S eb
    | _ => false)
  | .chain o o' a b c, S, ex => (match ex with
    | .Compare ea [op, op'] [eb, ec] _ => cmB o op && cmB o' op' && noSet ec && ckE n a S ea && ckE n b S eb && ckE n c S ec
    | _ => false)
  | .isN a, S, ex => (match ex with
    | .Compare ea [.Is] [.Constant .none _ _] _ => ckE n a S ea
    | _ => false)
  | .notN a, S, ex => (match ex with
    | .Compare ea [.IsNot] [.Constant .none _ _] _ => ckE n a S ea
    | _ => false)
  | .and a b, S, ex => (match ex with
    | .BoolOp .And (x :: y :: r) pos => ckE n a S x && ckE n b S (tailB .And (y :: r) pos)
    | _ => false)
  | .or a b, S, ex => (match ex with
    | .BoolOp .Or (x :: y :: r) pos => ckE n a S x && ckE n b S (tailB .Or (y :: r) pos)
    | _ => false)
  | .not a, S, ex => (match ex with
    | .UnaryOp .Not ea _ => ckE n a S ea
    | _ => false)
  | .ife c a b, S, ex => (match ex with
    | .IfExp ec ea eb _ => ckT n c S ec && ckE n a S ea && ckE n b S eb
    | _ => false)
  | .call f as df, S, ex => (match ex with
    | .Call (.Name x _) args [] _ => decide (n.fn f = some x) && (df.isEmpty || decide (df = n.df f)) && gloB S x && okN x && noStars args && ckA n as S args
    | _ => false)
  | .make c f as, S, ex => (match ex with
    | .Call (.Name x _) args [] _ => decide (n.cl c = some x) && decide (n.mk_ c = some f) && gloB S x && okN x && noStars args && ckA n as S args
    | _ => false)
  | .meth alts o as, S, ex => (match ex with
    | .Call (.Attribute eo m apos) args [] pos => (alts.all fun p => decide (n.mt p.1 p.2 = some m)) && dotB eo && (apos.endLine == pos.line) && decide (args.length < 30) && noStars args && ckE n o S eo && ckA n as S args
    | _ => false)
  | .fld f o, S, ex => (match ex with
    | .Attribute eo x _ => decide (n.fd f = some x) && dotB eo && ckE n o S eo
    | _ => false)
  | .pr p as, S, ex => (match ex with
    | .Call (.Name x _) (a0 :: args) [] _ => decide (x = prN p) && gloB S x && okN x && noStars (a0 :: args) && ckA n as S (a0 :: args)
    | _ => false)
  | .me m o as, S, ex => (match ex with
    | .Call (.Attribute eo x apos) args [] pos => decide (x = (meI m).2.2) && dotB eo && (apos.endLine == pos.line) && decide (args.length < 30) && noStars args && ckE n o S eo && ckA n as S args
    | _ => false)
  | .isi a ts, S, ex => (match ex with
    | .Call (.Name x _) [ea, ec] [] _ => decide (x = "isinstance") && gloB S x && okN x && noStar ea && ckE n a S ea && (match ts with
      | [t] => ckTy n S t ec
      | ts => (match ec with
        | .Tuple cs _ _ => noStars cs && (decide (cs.length = ts.length) && decide (ts.length ≤ 1000)) && (ts.zip cs).all fun p => ckTy n S p.1 p.2
        | _ => false))
    | _ => false)
  | .idx a b, S, ex => (match ex with
    | .Subscript ea eb _ => ixB eb && ckE n a S ea && ckE n b S eb
    | _ => false)
  | .sli a lo hi, S, ex => (match ex with
    | .Subscript ea (.Slice el eh none _) _ => ckE n a S ea && (match el with
      | some el => ckE n lo S el
      | none => (match lo with
        | .abs0 => true
        | _ => false)) && (match eh with
      | some eh => ckE n hi S eh
      | none => (match hi with
        | .abs0 => true
        | _ => false))
    | _ => false)
  | .tup as, S, ex => (match ex with
    | .Tuple es _ _ => noStars es && decide (es.length ≤ 1000) && ckA n as S es
    | _ => false)
  | .lst as, S, ex => (match ex with
    | .List es _ => noStars es && decide (es.length ≤ 1000) && ckA n as S es
    | _ => false)
  | .comp elt tg it cs own, S, ex => (match ex with
    | .ListComp ee [⟨tg', iter, ifs, 0⟩] sc _ => ckI n it S tg' iter && noSet iter && blkC S.N S.sc sc (ownP S own) && (own.all fun i => decide (i < S.N.length)) && ckTg (blkS S sc) (some sc) tg tg' && ((tgVs tg).all own.contains) && ckE n elt (blkS S sc) ee && ckTs n cs (blkS S sc) ifs
    | _ => false)
  | .dic as, S, ex => (match ex with
    | .Dict ks vs _ => decide (ks.length ≤ 15) && ckD n as S ks vs
    | _ => false)
  | .dcomp kx vx tg it cs own, S, ex => (match ex with
    | .DictComp ek ev [⟨tg', iter, ifs, 0⟩] sc _ => ckI n it S tg' iter && noSet iter && blkC S.N S.sc sc (ownP S own) && (own.all fun i => decide (i < S.N.length)) && ckTg (blkS S sc) (some sc) tg tg' && ((tgVs tg).all own.contains) && ckE n kx (blkS S sc) ek && ckE n vx (blkS S sc) ev && ckTs n cs (blkS S sc) ifs
    | _ => false)
  | .fstr as, S, ex => (match ex with
    | .JoinedStr (x :: y :: r) _ => ckF n as S (x :: y :: r)
    | _ => false)
  | .bad, _, _ => true
  | _, _, _ => false
def ckT (n : Nm) : E → Sta → Expr → Bool
  | .cmp o a b, S, ex => (match ex with
    | .Compare ea [op] [eb] _ => cmB o op && noSet eb && ckE n a S ea && ckE n b S eb
    | _ => false)
  | .chain o o' a b c, S, ex => (match ex with
    | .Compare ea [op, op'] [eb, ec] _ => cmB o op && cmB o' op' && noSet ec && ckE n a S ea && ckE n b S eb && ckE n c S ec
    | _ => false)
  | .isN a, S, ex => (match ex with
    | .Compare ea [.Is] [.Constant .none _ _] _ => ckE n a S ea
    | _ => false)
  | .notN a, S, ex => (match ex with
    | .Compare ea [.IsNot] [.Constant .none _ _] _ => ckE n a S ea
    | _ => false)
  | .and a b, S, ex => (match ex with
    | .BoolOp .And (x :: y :: r) pos => ckT n a S x && ckT n b S (tailB .And (y :: r) pos)
    | _ => false)
  | .or a b, S, ex => (match ex with
    | .BoolOp .Or (x :: y :: r) pos => ckT n a S x && ckT n b S (tailB .Or (y :: r) pos)
    | _ => false)
  | .not a, S, ex => (match ex with
    | .UnaryOp .Not ea _ => ckT n a S ea
    | _ => false)
  | .tv a, S, ex => tvB ex && ckE n a S ex
  | .bad, _, _ => true
  | _, _, _ => false
def ckA (n : Nm) : A → Sta → List Expr → Bool
  | .nil, _, es => (match es with
    | [] => true
    | _ => false)
  | .cons e as, S, es => (match es with
    | x :: r => ckE n e S x && ckA n as S r
    | _ => false)
def ckD (n : Nm) : A → Sta → List (Option Expr) → List Expr → Bool
  | .nil, _, ks, vs => (match ks, vs with
    | [], [] => true
    | _, _ => false)
  | .cons _ .nil, _, _, _ => false
  | .cons k (.cons v as), S, ks, vs => (match ks, vs with
    | some ek :: ks, ev :: vs => ckE n k S ek && ckE n v S ev && ckD n as S ks vs
    | _, _ => false)
def ckF (n : Nm) : A → Sta → List Expr → Bool
  | .nil, _, es => (match es with
    | [] => true
    | _ => false)
  | .cons e as, S, es => (match es with
    | .FormattedValue x (-1) none _ :: r => ckE n e S x && ckF n as S r
    | .Constant (.str x) _ _ :: r => (match e with
      | .con (.str y) => decide (x = ⟨y.toArray⟩) && decide (y.length ≤ 1000)
      | _ => false) && ckF n as S r
    | _ => false)
def ckTs (n : Nm) : A → Sta → List Expr → Bool
  | .nil, _, es => (match es with
    | [] => true
    | _ => false)
  | .cons e as, S, es => (match es with
    | [x] => ckT n e S x && (match as with
      | .nil => true
      | _ => false)
    | _ => false)
def ckI (n : Nm) : E → Sta → Expr → Expr → Bool
  | .rng1 a, S, _, ex => (match ex with
    | .Call (.Name x _) [ea] [] _ => decide (x = "range") && gloB S x && okN x && noStar ea && ckE n a S ea
    | _ => false)
  | .rng2 a b, S, _, ex => (match ex with
    | .Call (.Name x _) [ea, eb] [] _ => decide (x = "range") && gloB S x && okN x && noStar ea && noStar eb && ckE n a S ea && ckE n b S eb
    | _ => false)
  | .enm a, S, tg, ex => (match tg, ex with
    | .Tuple _ _ _, .Call (.Name x _) [ea] [] _ => decide (x = "enumerate") && gloB S x && okN x && noStar ea && ckE n a S ea
    | _, _ => false)
  | .zip a b, S, tg, ex => (match tg, ex with
    | .Tuple _ _ _, .Call (.Name x _) [ea, eb] [] _ => decide (x = "zip") && gloB S x && okN x && noStar ea && noStar eb && ckE n a S ea && ckE n b S eb
    | _, _ => false)
  | .sq a, S, _, ex => ckE n a S ex
  | .bad, _, _, _ => true
  | _, _, _, _ => false
end
end Y
set_option linter.all false
set_option maxHeartbeats 4000000
set_option maxRecDepth 100000
namespace Y
open PySem PySem.Spec PyProof.Rows L2
abbrev Wx (g : G) (m : Mp) (H : Hp) (E : XK) : QX := fun x s => ∀ m' H' cls dx, Ext m m' H H' → SR g m' H' s → RX g m' H' x cls dx → E cls dx H'
def spF (g : G) (C : Calls) (f : Nat) : Sp := fun vs H Q E => ∃ m st ds, SR g m H st ∧ RDs g m H ds vs ∧ C f ds st (Wn g m H Q) (Wx g m H E)
structure TopAt (g : G) (T : Tab) (n : Nm) (mg : Str → Option Value) : Prop where
  nm : g.nm = n.fd
  okc : ∀ c, g.okc c = (n.cl c).isSome
  oke : ∀ c, g.oke c = (n.ex c).isSome
  exg : ∀ c x, n.ex c = some x → mg x = some (.ref (g.ca c))
  exm : ∀ c c' x x', n.ex c = some x → n.ex c' = some x' → PySem.W.exmOne g.K (.ref (g.ca c)) (.ref (g.ca c')) = some (T.sub c c')
  ex0 : ∀ c x, n.ex c = some x → T.exf c = some none → (∃ bm, ExcBaseFacts "ValueError" "ValueError.__new__" "ValueError.__init__" bm ∧ PySem.W.excIn g.K (g.ca c) bm "ValueError.__new__" = true) ∧ PySem.W.keepIn g.K (.ref (g.ca c)) = true ∧
    PySem.W.subIn g.K (.ref (g.ca c)) (.type "BaseException") = some true ∧ PySem.W.typeIn g.K (.ref (g.ca c)) = some (.type "type")
  glo : ∀ i d x, T.glo i = some d → n.gl i = some x → ∃ u v, mg x = some u ∧ RelV v u ∧ ∀ m H, RD g m H d v
  blt : ∀ x ∈ bltNames, mg x = none
  fn : ∀ f x, n.fn f = some x → mg x = some (.ref (g.fa f)) ∧ PySem.W.keepIn g.K (.ref (g.fa f)) = true
  cl : ∀ c x, n.cl c = some x → mg x = some (.ref (g.ca c)) ∧ ClsAt g.K (g.ca c)
  noat : ∀ c x f y, n.cl c = some x → n.fd f = some y → NoAttr g.K (g.ca c) y
  nofd : ∀ c f x k, n.mt c f = some x → n.fd k ≠ some x
  mk_ : ∀ c f, n.mk_ c = some f → Mk g.K (g.ca c) (g.fa f)
  mt : ∀ c f x, n.mt c f = some x → Meth g.K (g.ca c) x (g.fa f)
  kit : ∀ c x t, n.cl c = some x → (∀ d, t = .own d → (n.cl d).isSome = true) → PySem.W.kitOne g.K (.ref (g.ca c)) (tyV1 g t) = some (isTy T (some (.own c)) t)
  kit2 : ∀ c x (t : String), n.cl c = some x → t ∈ ["NoneType", "bool", "int", "str", "tuple", "list", "dict"] → PySem.W.kitOne g.K (.type t) (.ref (g.ca c)) = some false
def spX (K : PySem.W.Frag) (C : Addr) (y : Str) : Sp := fun vs H Q _ => ∃ (a : Addr) (v : V), vs = [.ref a, v] ∧ H a = some (exo a C none) ∧ ∀ dx, H dx = none → dx ≠ a → Q .non (upd (upd H dx (exd dx [(y, v)])) a (exo a C (some dx)))
structure ExiAt (g : G) (T : Tab) (n : Nm) (P : Program) (w : World) (mg : Str → Option Value) (base : Heap) : Prop where
  ok : ∀ c x f y, n.ex c = some x → T.exf c = some (some f) → n.fd f = some y → OexC g.K (g.ca c) ∧ ∃ fI fd ps, PySem.W.findIn g.K (.ref (g.ca c)) "__init__" = some (some (.ref fI)) ∧ PySem.W.typeIn g.K (.ref fI) = some (.type "function") ∧
    FnOk P w g.K mg base (L2.CX P w) 1 fI fd ps (spX g.K (g.ca c) y) ∧ Binds g.K fd ps []
  fd : ∀ c x f, n.ex c = some x → T.exf c = some (some f) → (n.fd f).isSome = true
structure CalAt (g : G) (n : Nm) (P : Program) (w : World) (mg : Str → Option Value) (base : Heap) (L : Nat) (C : Calls) (f : Nat) : Prop where
  ok : ∃ fd ps, FnOk P w g.K mg base (L2.CX P w) L (g.fa f) fd ps (spF g C f) ∧ Binds g.K fd ps [] ∧ (n.df f ≠ [] → ∃ ds dvs, Vals dvs ds ∧ Binds g.K fd ps ds ∧ ∀ m H, RDs g m H (n.df f) dvs)
structure CxOk (g : G) (T : Tab) (n : Nm) (C : Calls) (L : Nat) (hx : Option Exc) (W : WX) (S : Sta) (X : Cx) : Prop where
  K : X.K = g.K
  N : X.N = S.N
  nd : X.N.Nodup
  sc : X.env.scope = S.sc
  F : Vf g T X.w
  MC : MonoC C
  tk : Takes X W
  hu : X.A.units + 64 < cLine
  calm : hx = none → X.calm = true
  room : hx = none → Room (L + 1) X.A
  top : TopAt g T n X.mg
  cal : ∀ f ds st Q E, C f ds st Q E → CalAt g n X.prog X.w X.mg X.base L C f
  hL : 1 ≤ L
  exi : ExiAt g T n X.prog X.w X.mg X.base
section
variable {g : G} {T : Tab} {n : Nm} {C : Calls} {L : Nat} {hx : Option Exc} {W : WX} {S : Sta} {X : Cx}
theorem CxOk.vis (O : CxOk g T n C L hx W S X) {x : Str} (h : visB S x = true) : Vis X.env.scope x := by
  unfold visB at h
  rw [← O.sc] at h
  split at h
  · exact .inl (by assumption)
  · exact .inr (.inl (by assumption))
  · exact .inr (.inr (by assumption))
  · cases h
theorem CxOk.loc (O : CxOk g T n C L hx W S X) {x : Str} (h : locB S x = true) : Loc X.env.scope x := by
  unfold locB at h
  rw [← O.sc] at h
  split at h
  · exact .inl (by assumption)
  · exact .inr (by assumption)
  · cases h
theorem CxOk.gl (O : CxOk g T n C L hx W S X) {x : Str} (h : gloB S x = true) : Gl X x := by
  unfold gloB at h
  rw [← O.sc] at h
  show X.env.scope.names.lookup x = some .globalImplicit
  split at h
  · assumption
  · cases h
theorem okN_1 {x : Str} (h : okN x = true) : (x == ("__debug__" : Str)) = false := by
  unfold okN at h
  rw [Bool.and_eq_true, Bool.not_eq_true'] at h
  exact h.1
theorem okN_2 {x : Str} (h : okN x = true) : (x == ("__classdict__" : Str)) = false := by
  unfold okN at h
  rw [Bool.and_eq_true, Bool.not_eq_true', Bool.not_eq_true'] at h
  exact h.2
theorem run_at {pins : List (Addr × Obj)} {σ : L2.St} {H : Hp} {s : Shared} {Q : VK} {us : List Value} {vs dvs : List V} {ds : List Value} {k : Nat} {f : Addr} {fd : FuncData} {ps : List Str} {sp : Sp} (F : FnOk X.prog X.w X.K X.mg X.base (L2.CX X.prog X.w) k f fd ps sp) (hr : Room k X.A)
    (hb : Binds X.K fd ps ds) (hd : Vals dvs ds) (tk : Takes X W) (I : Inv X pins σ H s) (r : Vals vs us) (h : sp (vs ++ dvs) H Q (WE W σ)) : wpAny (model X.prog X.w) X.A (call (.ref f) us) (EP X pins σ Q) X.xe s := by
  have r2 : Vals (vs ++ dvs) (us ++ ds) := r.append hd
  have l : (us ++ ds).length = ps.length := r2.length.symm.trans (F.len _ _ _ _ h)
  have b := hb s us I.kIn l
  refine wpAny_call (codeAny_mono (F.run _ _ s H _ _ _ Q (WE W σ) hr I.env0 b r2 h) fun z s' q => ?_)
  cases z with
  | error e => exact passAt tk σ pins H s e s' I q
  | ok fl =>
    cases fl with
    | ret u => exact I.after q
    | _ => exact q.elim
theorem make_at {pins : List (Addr × Obj)} {σ : L2.St} {H : Hp} {s : Shared} {Q : VK} {us : List Value} {vs : List V} {k : Nat} {f D : Addr} {fd : FuncData} {ps : List Str} {sp : Sp} (M : Mk X.K D f) (F : FnOk X.prog X.w X.K X.mg X.base (L2.CX X.prog X.w) k f fd ps sp) (hr : Room (k + 1) X.A)
    (hb : Binds X.K fd ps []) (tk : Takes X W) (I : Inv X pins σ H s) (r : Vals vs us)
    (h : ∀ x dx, H x = none → H dx = none → dx ≠ x → sp (.ref x :: vs) (upd (upd H dx (.own x)) x (.ins D dx [])) (fun v H2 => v = .non ∧ Q (.ref x) H2) (WE W σ)) :
    wpAny (model X.prog X.w) X.A (call (.ref D) us) (EP X pins σ Q) X.xe s := by
  have q := h (s.heap.objs.size + 1) s.heap.objs.size (I.hok.fresh (Nat.le_succ _)) (I.hok.fresh (Nat.le_refl _)) (Nat.ne_of_lt (Nat.lt_succ_self _))
  have J := Inv.made (C := D) I
  have r2 : Vals (V.ref (s.heap.objs.size + 1) :: vs) (Value.ref (s.heap.objs.size + 1) :: us) := .cons rfl r
  have l : ((Value.ref (s.heap.objs.size + 1) :: us) ++ []).length = ps.length := by
    rw [List.append_nil]
    exact r2.length.symm.trans (F.len _ _ _ _ q)
  have b := hb _ (Value.ref (s.heap.objs.size + 1) :: us) J.kIn l
  rw [List.append_nil] at b
  refine wpAny_call (make_map (f := f) I.kIn M.makes M.init (beq_iff_eq.mp M.fn) (codeAny_mono (F.run _ X.stack _ _ _ _ _ _ (WE W σ) (hr.make D us []) (J.env0.make D us []) b r2 q) fun z s' q' => ?_))
  cases z with
  | error e => exact passAt tk σ pins _ _ e s' J q'
  | ok fl =>
    cases fl with
    | ret u =>
      obtain ⟨v, H', I3, rv, ev, q3⟩ := J.after q'
      subst ev
      exact ⟨rv, V.ref (s.heap.objs.size + 1), H', I3, rfl, q3⟩
    | _ => exact q'.elim
theorem rE_of {e : E} {σ : L2.St} {H : Hp} {Q : VK} {m : Mp} {env : Env} {st : Store} (SR_ : SR g m H st) (ER_ : ER g m H σ env) (h : wpE T C hx e env st (Wn g m H Q) (Wx g m H (WE W σ))) : rE g T C hx W e σ H Q := ⟨m, env, st, SR_, ER_, h⟩
theorem Wn.ext {m m' : Mp} {H H' : Hp} {Q : VK} (e : Ext m m' H H') {d : D} {s : Store} (h : Wn g m H Q d s) : Wn g m' H' Q d s := fun m2 H2 v e2 => h m2 H2 v (e.trans e2)
theorem Wx.ext {m m' : Mp} {H H' : Hp} {E0 : XK} (e : Ext m m' H H') {x : Exc} {s : Store} (h : Wx g m H E0 x s) : Wx g m' H' E0 x s := fun m2 H2 c d e2 => h m2 H2 c d (e.trans e2)
section
variable (O : CxOk g T n C L hx W S X)
include O
theorem go_E {e : E} {σ : L2.St} {H : Hp} {m : Mp} {env : Env} {st : Store} {Q : VK} {R : QE} (SR_ : SR g m H st) (ER_ : ER g m H σ env) (h : wpE T C hx e env st R (Wx g m H (WE W σ)))
    (k : ∀ d s m' H' v, Ext m m' H H' → SR g m' H' s → ER g m' H' σ env → RD g m' H' d v → R d s → Q v H') : rE g T C hx W e σ H Q :=
  ⟨m, env, st, SR_, ER_, wpE_mono O.MC e env st _ _ _ _ (fun d s hr m' H' v e1 s1 r1 => k d s m' H' v e1 s1 (ER_.mono e1) r1 hr) (fun _ _ z => z) h⟩
theorem go_T {e : E} {σ : L2.St} {H : Hp} {m : Mp} {env : Env} {st : Store} {Q : Bool → Hp → Prop} {R : Bool → Store → Prop} (SR_ : SR g m H st) (ER_ : ER g m H σ env) (h : wpT T C hx e env st R (Wx g m H (WE W σ)))
    (k : ∀ b s m' H', Ext m m' H H' → SR g m' H' s → ER g m' H' σ env → R b s → Q b H') : rT g T C hx W e σ H Q :=
  ⟨m, env, st, SR_, ER_, wpT_mono O.MC e env st _ _ _ _ (fun b s hr m' H' e1 s1 => k b s m' H' e1 s1 (ER_.mono e1) hr) (fun _ _ z => z) h⟩
theorem go_A {as : A} {σ : L2.St} {H : Hp} {m : Mp} {env : Env} {st : Store} {Q : List V → Hp → Prop} {R : List D → Store → Prop} (SR_ : SR g m H st) (ER_ : ER g m H σ env) (h : wpA T C hx as env st R (Wx g m H (WE W σ)))
    (k : ∀ ds s m' H' vs, Ext m m' H H' → SR g m' H' s → ER g m' H' σ env → RDs g m' H' ds vs → R ds s → Q vs H') : rA g T C hx W as σ H Q :=
  ⟨m, env, st, SR_, ER_, wpA_mono O.MC as env st _ _ _ _ (fun ds s hr m' H' vs e1 s1 r1 => k ds s m' H' vs e1 s1 (ER_.mono e1) r1 hr) (fun _ _ z => z) h⟩
theorem x_E {e : E} {env : Env} {st : Store} {m m' : Mp} {H H' : Hp} {σ : L2.St} {R : QE} (e1 : Ext m m' H H') (h : wpE T C hx e env st R (Wx g m H (WE W σ))) : wpE T C hx e env st R (Wx g m' H' (WE W σ)) := wpE_mono O.MC e env st _ _ _ _ (fun _ _ z => z) (fun _ _ z => Wx.ext e1 z) h
theorem x_T {e : E} {env : Env} {st : Store} {m m' : Mp} {H H' : Hp} {σ : L2.St} {R : Bool → Store → Prop} (e1 : Ext m m' H H') (h : wpT T C hx e env st R (Wx g m H (WE W σ))) : wpT T C hx e env st R (Wx g m' H' (WE W σ)) := wpT_mono O.MC e env st _ _ _ _ (fun _ _ z => z) (fun _ _ z => Wx.ext e1 z) h
theorem x_A {as : A} {env : Env} {st : Store} {m m' : Mp} {H H' : Hp} {σ : L2.St} {R : List D → Store → Prop} (e1 : Ext m m' H H') (h : wpA T C hx as env st R (Wx g m H (WE W σ))) : wpA T C hx as env st R (Wx g m' H' (WE W σ)) := wpA_mono O.MC as env st _ _ _ _ (fun _ _ z => z) (fun _ _ z => Wx.ext e1 z) h
theorem s_var {i : Nat} {x : Str} {pos : Pos} (h1 : S.N[i]? = some x) (h2 : visB S x = true) (h3 : okN x = true) : PE X (.Name x pos) (rE g T C hx W (.var i)) := by
  refine PE.weak (pe_var (i := i) (by rw [O.N]; exact h1) (O.vis h2) (okN_1 h3) (okN_2 h3)) fun σ H Q ⟨m, env, st, SR_, ER_, h⟩ => ?_
  have h : getV env i (fun d => Wn g m H Q d st) := h
  unfold getV at h
  split at h
  · rename_i d e
    obtain ⟨v, e2, r⟩ := ER_.at_ i d e
    exact ⟨v, e2, Wn.here SR_ r h⟩
  · exact h.elim
theorem s_con {d : D} {c : Const} {k : Nat} {pos : Pos} (h1 : conB d c = true) : PE X (.Constant c k pos) (rE g T C hx W (.con d)) := by
  unfold conB at h1
  split at h1
  · exact PE.weak pe_non fun σ H Q ⟨m, env, st, SR_, ER_, h⟩ => Wn.non SR_ h
  · rename_i b c
    cases eq_of_beq h1
    exact PE.weak pe_bl fun σ H Q ⟨m, env, st, SR_, ER_, h⟩ => Wn.bl SR_ h
  · cases of_decide_eq_true h1
    exact PE.weak pe_int fun σ H Q ⟨m, env, st, SR_, ER_, h⟩ => Wn.int SR_ h
  · cases of_decide_eq_true h1
    exact PE.weak pe_str fun σ H Q ⟨m, env, st, SR_, ER_, h⟩ => Wn.str SR_ h
  · cases h1
theorem s_glo {k : Nat} {x : Str} {pos : Pos} (h1 : n.gl k = some x) (h2 : gloB S x = true) (h3 : okN x = true) : PE X (.Name x pos) (rE g T C hx W (.glo k)) := by
  cases e : T.glo k with
  | none =>
    refine ⟨fun pins s σ H Q I ⟨m, env, st, SR_, ER_, h⟩ => ?_⟩
    unfold wpE at h
    rw [e] at h
    exact h.elim
  | some d =>
    obtain ⟨u, v, e1, r, q⟩ := O.top.glo k d x e h1
    refine PE.weak (pe_glob (O.gl h2) e1 r (okN_1 h3)) fun σ H Q ⟨m, env, st, SR_, ER_, h⟩ => ?_
    unfold wpE at h
    rw [e] at h
    exact Wn.here SR_ (q m H) h
theorem s_bin {o : Op} {op : Operator} {a b : E} {ea eb : Expr} {pos : Pos} (h1 : opB o op = true) (ha : PE X ea (rE g T C hx W a)) (hb : PE X eb (rE g T C hx W b)) : PE X (.BinOp ea op eb pos) (rE g T C hx W (.bin o a b)) := by
  rw [opB_ok h1]
  refine PE.weak (pe_op (op_bin O.K o) ha hb) fun σ H Q ⟨m, env, st, SR_, ER_, h⟩ => ?_
  refine go_E O SR_ ER_ h fun x s1 m1 H1 v1 e1 S1 E1 r1 h1 => ?_
  refine go_E O S1 E1 (x_E O e1 h1) fun y s2 m2 H2 v2 e2 S2 E2 r2 h2 => ?_
  exact ⟨m2, s2, x, y, S2, RD.mono e2 _ _ r1, r2, binQ_mono (fun d s z => Wn.ext (e1.trans e2) z) h2⟩
theorem s_neg {a : E} {ea : Expr} {pos : Pos} (ha : PE X ea (rE g T C hx W a)) : PE X (.UnaryOp .USub ea pos) (rE g T C hx W (.neg a)) := by
  refine PE.weak (pe_un un_neg ha) fun σ H Q ⟨m, env, st, SR_, ER_, h⟩ => ?_
  refine go_E O SR_ ER_ h fun x s1 m1 H1 v1 e1 S1 E1 r1 h1 => ?_
  split at h1
  · cases rd_int r1
    exact ⟨_, rfl, Wn.int S1 (Wn.ext e1 h1)⟩
  · exact h1.elim
theorem s_cmp {o : Cm} {op : CmpOp} {a b : E} {ea eb : Expr} {pos : Pos} (h1 : cmB o op = true) (h2 : noSet eb = true) (ha : PE X ea (rE g T C hx W a)) (hb : PE X eb (rE g T C hx W b)) : PE X (.Compare ea [op] [eb] pos) (rE g T C hx W (.cmp o a b)) := by
  rw [cmB_ok h1]
  refine PE.weak (pe_cmpR (op_cm O.F O.K O.hu o) ha hb (noSet_mark h2)) fun σ H Q ⟨m, env, st, SR_, ER_, h⟩ => ?_
  refine go_E O SR_ ER_ h fun x s1 m1 H1 v1 e1 S1 E1 r1 h1 => ?_
  refine go_E O S1 E1 (x_E O e1 h1) fun y s2 m2 H2 v2 e2 S2 E2 r2 h2 => ?_
  exact ⟨m2, s2, x, y, S2, RD.mono e2 _ _ r1, r2, cmpQ_mono (fun b z => Wn.bl S2 (Wn.ext (e1.trans e2) z)) h2⟩
theorem t_cmp {o : Cm} {op : CmpOp} {a b : E} {ea eb : Expr} {pos : Pos} (h1 : cmB o op = true) (h2 : noSet eb = true) (ha : PE X ea (rE g T C hx W a)) (hb : PE X eb (rE g T C hx W b)) : PT X (.Compare ea [op] [eb] pos) (rT g T C hx W (.cmp o a b)) := by
  rw [cmB_ok h1]
  refine PT.weak (pt_cmpR (op_cm O.F O.K O.hu o) ha hb (noSet_mark h2)) fun σ H Q ⟨m, env, st, SR_, ER_, h⟩ => ?_
  refine go_E O SR_ ER_ h fun x s1 m1 H1 v1 e1 S1 E1 r1 h1 => ?_
  refine go_E O S1 E1 (x_E O e1 h1) fun y s2 m2 H2 v2 e2 S2 E2 r2 h2 => ?_
  exact ⟨m2, s2, x, y, S2, RD.mono e2 _ _ r1, r2, cmpQ_mono (fun b z => ⟨b, rfl, z m2 H2 (e1.trans e2) S2⟩) h2⟩
theorem last_mark {op op' : CmpOp} {b c : Expr} (h : noSet c = true) : lastMarks [op, op'] [b, c] = false := noSet_mark (op := op') h
theorem s_chain {o o' : Cm} {op op' : CmpOp} {a b c : E} {ea eb ec : Expr} {pos : Pos} (h1 : cmB o op = true) (h1' : cmB o' op' = true) (h2 : noSet ec = true) (ha : PE X ea (rE g T C hx W a)) (hb : PE X eb (rE g T C hx W b)) (hc : PE X ec (rE g T C hx W c)) :
    PE X (.Compare ea [op, op'] [eb, ec] pos) (rE g T C hx W (.chain o o' a b c)) := by
  rw [cmB_ok h1, cmB_ok h1']
  refine PE.weak (pe_chain (op_cm O.F O.K O.hu o) (op_cm O.F O.K O.hu o') ha hb hc (last_mark O h2)) fun σ H Q ⟨m, env, st, SR_, ER_, h⟩ => ?_
  refine go_E O SR_ ER_ h fun x s1 m1 H1 v1 e1 S1 E1 r1 h1 => ?_
  refine go_E O S1 E1 (x_E O e1 h1) fun y s2 m2 H2 v2 e2 S2 E2 r2 h2 => ?_
  refine ⟨m2, s2, x, y, S2, RD.mono e2 _ _ r1, r2, cmpQ_mono (fun k z => ⟨k, rfl, ?_⟩) h2⟩
  cases k with
  | false =>
    rw [if_neg Bool.false_ne_true] at z ⊢
    exact Wn.bl S2 (Wn.ext (e1.trans e2) z)
  | true =>
    rw [if_pos rfl] at z ⊢
    refine go_E O S2 E2 (x_E O (e1.trans e2) z) fun w s3 m3 H3 v3 e3 S3 E3 r3 h3 => ?_
    exact ⟨m3, s3, y, w, S3, RD.mono e3 _ _ r2, r3, cmpQ_mono (fun b z => Wn.bl S3 (Wn.ext ((e1.trans e2).trans e3) z)) h3⟩
theorem t_chain {o o' : Cm} {op op' : CmpOp} {a b c : E} {ea eb ec : Expr} {pos : Pos} (h1 : cmB o op = true) (h1' : cmB o' op' = true) (h2 : noSet ec = true) (ha : PE X ea (rE g T C hx W a)) (hb : PE X eb (rE g T C hx W b)) (hc : PE X ec (rE g T C hx W c)) :
    PT X (.Compare ea [op, op'] [eb, ec] pos) (rT g T C hx W (.chain o o' a b c)) := by
  rw [cmB_ok h1, cmB_ok h1']
  refine PT.weak (pt_chain (op_cm O.F O.K O.hu o) (op_cm O.F O.K O.hu o') ha hb hc (last_mark O h2)) fun σ H Q ⟨m, env, st, SR_, ER_, h⟩ => ?_
  refine go_E O SR_ ER_ h fun x s1 m1 H1 v1 e1 S1 E1 r1 h1 => ?_
  refine go_E O S1 E1 (x_E O e1 h1) fun y s2 m2 H2 v2 e2 S2 E2 r2 h2 => ?_
  refine ⟨m2, s2, x, y, S2, RD.mono e2 _ _ r1, r2, cmpQ_mono (fun k z => ⟨k, rfl, ?_⟩) h2⟩
  cases k with
  | false =>
    rw [if_neg Bool.false_ne_true] at z ⊢
    exact ⟨false, rfl, z m2 H2 (e1.trans e2) S2⟩
  | true =>
    rw [if_pos rfl] at z ⊢
    refine go_E O S2 E2 (x_E O (e1.trans e2) z) fun w s3 m3 H3 v3 e3 S3 E3 r3 h3 => ?_
    exact ⟨m3, s3, y, w, S3, RD.mono e3 _ _ r2, r3, cmpQ_mono (fun b z => ⟨b, rfl, z m3 H3 ((e1.trans e2).trans e3) S3⟩) h3⟩
theorem non_iff {m : Mp} {H : Hp} {d : D} {v : V} (r : RD g m H d v) : decide (v = V.non) = decide (d = D.non) := by
  cases d with
  | non => cases rd_non r; rfl
  | bl b => cases rd_bl r; rfl
  | int i => cases rd_int r; rfl
  | str x => cases rd_str r; rfl
  | tup ds => obtain ⟨a, vs, rfl, _⟩ := rd_tup r; rfl
  | ref h => obtain ⟨a, rfl, _⟩ := rd_ref r; rfl
  | kon k => cases (show v = .ref (g.ka k) from r); rfl
theorem s_isN {a : E} {ea : Expr} {j : Nat} {pos pos' : Pos} (ha : PE X ea (rE g T C hx W a)) : PE X (.Compare ea [.Is] [.Constant .none j pos'] pos) (rE g T C hx W (.isN a)) := by
  refine PE.weak (pe_cmp (pc_isN ha) rfl) fun σ H Q ⟨m, env, st, SR_, ER_, h⟩ => ?_
  refine go_E O SR_ ER_ h fun x s1 m1 H1 v1 e1 S1 E1 r1 h1 => ?_
  rw [non_iff O r1]
  exact Wn.bl S1 (Wn.ext e1 h1)
theorem s_notN {a : E} {ea : Expr} {j : Nat} {pos pos' : Pos} (ha : PE X ea (rE g T C hx W a)) : PE X (.Compare ea [.IsNot] [.Constant .none j pos'] pos) (rE g T C hx W (.notN a)) := by
  refine PE.weak (pe_cmp (pc_notN ha) rfl) fun σ H Q ⟨m, env, st, SR_, ER_, h⟩ => ?_
  refine go_E O SR_ ER_ h fun x s1 m1 H1 v1 e1 S1 E1 r1 h1 => ?_
  rw [non_iff O r1]
  exact Wn.bl S1 (Wn.ext e1 h1)
theorem t_isN {a : E} {ea : Expr} {j : Nat} {pos pos' : Pos} (ha : PE X ea (rE g T C hx W a)) : PT X (.Compare ea [.Is] [.Constant .none j pos'] pos) (rT g T C hx W (.isN a)) := by
  refine PT.weak (pt_cmp (pc_isN ha) rfl) fun σ H Q ⟨m, env, st, SR_, ER_, h⟩ => ?_
  refine go_E O SR_ ER_ h fun x s1 m1 H1 v1 e1 S1 E1 r1 h1 => ?_
  rw [non_iff O r1]
  exact ⟨_, rfl, h1 m1 H1 e1 S1⟩
theorem t_notN {a : E} {ea : Expr} {j : Nat} {pos pos' : Pos} (ha : PE X ea (rE g T C hx W a)) : PT X (.Compare ea [.IsNot] [.Constant .none j pos'] pos) (rT g T C hx W (.notN a)) := by
  refine PT.weak (pt_cmp (pc_notN ha) rfl) fun σ H Q ⟨m, env, st, SR_, ER_, h⟩ => ?_
  refine go_E O SR_ ER_ h fun x s1 m1 H1 v1 e1 S1 E1 r1 h1 => ?_
  rw [non_iff O r1]
  exact ⟨_, rfl, h1 m1 H1 e1 S1⟩
theorem s_and {a b : E} {x y : Expr} {r : List Expr} {pos : Pos} (ha : PE X x (rE g T C hx W a)) (hb : PE X (.BoolOp .And (y :: r) pos) (rE g T C hx W b)) : PE X (.BoolOp .And (x :: y :: r) pos) (rE g T C hx W (.and a b)) := by
  refine PE.weak (pe_and ha hb) fun σ H Q ⟨m, env, st, SR_, ER_, h⟩ => ?_
  refine go_E O SR_ ER_ h fun x s1 m1 H1 v1 e1 S1 E1 r1 h1 => ?_
  split at h1
  · cases rd_bl r1
    refine ⟨_, rfl, ?_⟩
    split at h1
    · rename_i e
      rw [if_pos e]
      exact rE_of S1 E1 (wpE_mono O.MC b env s1 _ _ _ _ (fun _ _ z => Wn.ext e1 z) (fun _ _ z => Wx.ext e1 z) h1)
    · rename_i e
      rw [if_neg e]
      exact Wn.bl S1 (Wn.ext e1 h1)
  · exact h1.elim
theorem s_or {a b : E} {x y : Expr} {r : List Expr} {pos : Pos} (ha : PE X x (rE g T C hx W a)) (hb : PE X (.BoolOp .Or (y :: r) pos) (rE g T C hx W b)) : PE X (.BoolOp .Or (x :: y :: r) pos) (rE g T C hx W (.or a b)) := by
  refine PE.weak (pe_or ha hb) fun σ H Q ⟨m, env, st, SR_, ER_, h⟩ => ?_
  refine go_E O SR_ ER_ h fun x s1 m1 H1 v1 e1 S1 E1 r1 h1 => ?_
  split at h1
  · cases rd_bl r1
    refine ⟨_, rfl, ?_⟩
    split at h1
    · rename_i e
      rw [if_pos e]
      exact Wn.bl S1 (Wn.ext e1 h1)
    · rename_i e
      rw [if_neg e]
      exact rE_of S1 E1 (wpE_mono O.MC b env s1 _ _ _ _ (fun _ _ z => Wn.ext e1 z) (fun _ _ z => Wx.ext e1 z) h1)
  · exact h1.elim
theorem s_not {a : E} {ea : Expr} {pos : Pos} (ha : PE X ea (rE g T C hx W a)) : PE X (.UnaryOp .Not ea pos) (rE g T C hx W (.not a)) := by
  refine PE.weak (pe_not ha) fun σ H Q ⟨m, env, st, SR_, ER_, h⟩ => ?_
  refine go_E O SR_ ER_ h fun x s1 m1 H1 v1 e1 S1 E1 r1 h1 => ?_
  split at h1
  · cases rd_bl r1
    exact ⟨_, rfl, Wn.bl S1 (Wn.ext e1 h1)⟩
  · exact h1.elim
theorem w_and {a b : E} {x y : Expr} {r : List Expr} {pos : Pos} (ha : PT X x (rT g T C hx W a)) (hb : PW X (.BoolOp .And (y :: r) pos) (rT g T C hx W b)) : PW X (.BoolOp .And (x :: y :: r) pos) (rT g T C hx W (.and a b)) := by
  refine PW.weak (pw_and ha hb) fun σ H Q ⟨m, env, st, SR_, ER_, h⟩ => ?_
  refine go_T O SR_ ER_ h fun k s1 m1 H1 e1 S1 E1 h1 => ?_
  cases k with
  | true =>
    rw [if_pos rfl] at h1 ⊢
    exact ⟨m1, env, s1, S1, E1, wpT_mono O.MC b env s1 _ _ _ _ (fun k s z m' H' e2 => z m' H' (e1.trans e2)) (fun _ _ z => Wx.ext e1 z) h1⟩
  | false =>
    rw [if_neg Bool.false_ne_true] at h1 ⊢
    exact h1 m1 H1 e1 S1
theorem w_or {a b : E} {x y : Expr} {r : List Expr} {pos : Pos} (ha : PT X x (rT g T C hx W a)) (hb : PW X (.BoolOp .Or (y :: r) pos) (rT g T C hx W b)) : PW X (.BoolOp .Or (x :: y :: r) pos) (rT g T C hx W (.or a b)) := by
  refine PW.weak (pw_or ha hb) fun σ H Q ⟨m, env, st, SR_, ER_, h⟩ => ?_
  refine go_T O SR_ ER_ h fun k s1 m1 H1 e1 S1 E1 h1 => ?_
  cases k with
  | true =>
    rw [if_pos rfl] at h1 ⊢
    exact h1 m1 H1 e1 S1
  | false =>
    rw [if_neg Bool.false_ne_true] at h1 ⊢
    exact ⟨m1, env, s1, S1, E1, wpT_mono O.MC b env s1 _ _ _ _ (fun k s z m' H' e2 => z m' H' (e1.trans e2)) (fun _ _ z => Wx.ext e1 z) h1⟩
theorem t_not {a : E} {ea : Expr} {pos : Pos} (ha : PT X ea (rT g T C hx W a)) : PT X (.UnaryOp .Not ea pos) (rT g T C hx W (.not a)) := by
  refine PT.weak (pt_not ha) fun σ H Q ⟨m, env, st, SR_, ER_, h⟩ => ?_
  exact go_T O SR_ ER_ h fun k s1 m1 H1 e1 S1 E1 h1 => h1 m1 H1 e1 S1
theorem t_tv {a : E} {ea : Expr} (h1 : tvB ea = true) (ha : PE X ea (rE g T C hx W a)) : PT X ea (rT g T C hx W (.tv a)) := by
  refine PT.weak (pt_truth ha (tv_true h1)) fun σ H Q ⟨m, env, st, SR_, ER_, h⟩ => ?_
  refine go_E O SR_ ER_ h fun x s1 m1 H1 v1 e1 S1 E1 r1 h1 => ?_
  obtain ⟨k, h2, h3⟩ := tru_val O.K S1 r1 h1
  exact ⟨k, h2, h3 m1 H1 e1 S1⟩
theorem s_ife {c a b : E} {ec ea eb : Expr} {pos : Pos} (hc : PT X ec (rT g T C hx W c)) (ha : PE X ea (rE g T C hx W a)) (hb : PE X eb (rE g T C hx W b)) : PE X (.IfExp ec ea eb pos) (rE g T C hx W (.ife c a b)) := by
  refine PE.weak (pe_ifExp hc ha hb) fun σ H Q ⟨m, env, st, SR_, ER_, h⟩ => ?_
  refine go_T O SR_ ER_ h fun k s1 m1 H1 e1 S1 E1 h1 => ?_
  cases k with
  | true =>
    rw [if_pos rfl] at h1 ⊢
    exact rE_of S1 E1 (wpE_mono O.MC a env s1 _ _ _ _ (fun _ _ z => Wn.ext e1 z) (fun _ _ z => Wx.ext e1 z) h1)
  | false =>
    rw [if_neg Bool.false_ne_true] at h1 ⊢
    exact rE_of S1 E1 (wpE_mono O.MC b env s1 _ _ _ _ (fun _ _ z => Wn.ext e1 z) (fun _ _ z => Wx.ext e1 z) h1)
end
end
end Y
set_option linter.all false
set_option maxHeartbeats 4000000
set_option maxRecDepth 100000
namespace Y
open PySem PySem.Spec PyProof.Rows L2
theorem lookup_mem {α : Type} {c : Nat} {f : α} : ∀ {alts : List (Nat × α)}, alts.lookup c = some f → (c, f) ∈ alts
  | [], h => by cases h
  | (k, p) :: r, h => by
    rw [List.lookup_cons] at h
    by_cases z : c = k
    · subst z
      rw [beq_self_eq_true] at h
      cases h
      exact List.mem_cons_self
    · rw [show (c == k) = false from Bool.eq_false_iff.mpr fun hb => z (eq_of_beq hb)] at h
      exact List.mem_cons_of_mem _ (lookup_mem h)
theorem rf_none {g : G} {m : Mp} {H : Hp} {x : Str} (hn : ∀ k, g.nm k ≠ some x) : ∀ {fs : List (Nat × D)} {vs : List (Str × V)}, RF g m H fs vs → vs.lookup x = none
  | _, _, .nil => rfl
  | p :: _, (w, u) :: _, .cons hp t => by
    rw [List.lookup_cons, show (x == w) = false from Bool.eq_false_iff.mpr fun hb => hn p.1 (by rw [eq_of_beq hb]; exact hp.1)]
    exact rf_none hn t
theorem rf_get {g : G} {m : Mp} {H : Hp} {x : Str} {f : Nat} {d : D} (nmi : ∀ f f' x, g.nm f = some x → g.nm f' = some x → f = f') (hf : g.nm f = some x) : ∀ {fs : List (Nat × D)} {vs : List (Str × V)}, RF g m H fs vs → fs.lookup f = some d → ∃ v, vs.lookup x = some v ∧ RD g m H d v
  | _, _, .nil, h => by cases h
  | (k, e) :: _, (w, u) :: _, .cons hp t, h => by
    rw [List.lookup_cons] at h
    by_cases z : f = k
    · subst z
      rw [beq_self_eq_true] at h
      cases h
      have e2 : x = w := Option.some.inj (hf.symm.trans hp.1)
      subst e2
      exact ⟨u, by rw [List.lookup_cons, beq_self_eq_true], hp.2⟩
    · rw [show (f == k) = false from Bool.eq_false_iff.mpr fun hb => z (eq_of_beq hb)] at h
      have ne : (x == w) = false := by
        apply Bool.eq_false_iff.mpr
        intro hb
        have hb : x = w := eq_of_beq hb
        subst hb
        exact z (nmi f k x hf hp.1)
      rw [List.lookup_cons, ne]
      exact rf_get nmi hf t h
section
variable {g : G} {T : Tab} {n : Nm} {C : Calls} {L : Nat} {hx : Option Exc} {W : WX} {S : Sta} {X : Cx}
section
variable (O : CxOk g T n C L hx W S X)
include O
theorem call_run {pins : List (Addr × Obj)} {σ : L2.St} {H : Hp} {s : Shared} {Q : VK} {us : List Value} {vs : List V} {m : Mp} {st : Store} {f : Nat} {ds df : List D} (hn : hx = none) (I : Inv X pins σ H s) (S1 : SR g m H st)
    (r : RDs g m H ds vs) (rv : Vals vs us) (hd : df = [] ∨ df = n.df f) (h : C f (ds ++ df) st (Wn g m H Q) (Wx g m H (WE W σ))) : wpAny (model X.prog X.w) X.A (call (.ref (g.fa f)) us) (EP X pins σ Q) X.xe s := by
  obtain ⟨fd, ps, F, b, b2⟩ := (O.cal _ _ _ _ _ h).ok
  rw [← O.K] at F b b2
  have hr := (O.room hn).mono (Nat.le_succ _)
  rcases hd with rfl | rfl
  · exact run_at F hr b .nil O.tk I rv ⟨m, st, ds ++ [], S1, by rw [List.append_nil, List.append_nil]; exact r, h⟩
  · by_cases z : n.df f = []
    · rw [z] at h
      exact run_at F hr b .nil O.tk I rv ⟨m, st, ds ++ [], S1, by rw [List.append_nil, List.append_nil]; exact r, h⟩
    · obtain ⟨es, dvs, v1, b3, q⟩ := b2 z
      exact run_at F hr b3 v1 O.tk I rv ⟨m, st, ds ++ n.df f, S1, r.app (q m H), h⟩
theorem nil_of {as : A} {args : List Expr} (h : ckA n as S args = true) (e : args = []) : as = .nil := by
  subst e
  cases as with
  | nil => rfl
  | cons a b => cases h
theorem s_call {f : Nat} {as : A} {df : List D} {x : Str} {p pos : Pos} {args : List Expr} (h1 : n.fn f = some x) (h2 : df = [] ∨ df = n.df f) (h3 : gloB S x = true) (h4 : okN x = true) (h5 : noStars args = true) (h6 : args = [] → as = .nil)
    (ha : PA X args (rA g T C hx W as)) : PE X (.Call (.Name x p) args [] pos) (rE g T C hx W (.call f as df)) := by
  refine ⟨fun pins s σ H Q I ⟨m, env, st, SR_, ER_, hn, h⟩ => ?_⟩
  obtain ⟨hm, hk⟩ := O.top.fn f x h1
  rw [← O.K] at hk
  refine wpAny_Call_Name_kw (ld_glob I (O.gl h3) hm ?_ (okN_1 h4))
  cases args with
  | nil =>
    rw [h6 rfl] at h
    exact PySem.W.callWith_K0 I.kIn hk (call_run O (us := []) (vs := []) hn I SR_ .nil .nil h2 h)
  | cons e es =>
    have h50 : noStars (e :: es) = true := h5
    have h5 : (noStar e && noStars es) = true := h5
    rw [Bool.and_eq_true] at h5
    refine PySem.W.callWith_K (h₀ := X.base) I.ok.mod.kin hk (thn (ha.run pos pins s σ H (fun vs H1 => ∃ m1 s1 ds, SR g m1 H1 s1 ∧ RDs g m1 H1 ds vs ∧ C f (ds ++ df) s1 (Wn g m1 H1 Q) (Wx g m1 H1 (WE W σ))) I ?_) fun us s1 ⟨vs, H1, I1, r, q⟩ => ⟨I1.kIn, ?_⟩) (star_cons h5.1) (star_any h5.2)
    · exact go_A O SR_ ER_ h fun ds s1 m1 H1 vs e1 S1 E1 r1 z => ⟨m1, s1, ds, S1, r1, O.MC _ _ _ _ _ _ _ (fun d s z => Wn.ext e1 z) (fun x s z => Wx.ext e1 z) z⟩
    · obtain ⟨m1, s1, ds, S1, r1, z⟩ := q
      exact call_run O hn I1 S1 r1 r h2 z
theorem make_run {pins : List (Addr × Obj)} {σ : L2.St} {H : Hp} {s : Shared} {Q : VK} {us : List Value} {vs : List V} {m : Mp} {st : Store} {c f : Nat} {x : Str} {ds : List D} (hn : hx = none) (h1 : n.cl c = some x) (h2 : n.mk_ c = some f) (I : Inv X pins σ H s) (S1 : SR g m H st)
    (r : RDs g m H ds vs) (rv : Vals vs us) (h : C f (.ref st.length :: ds) (st ++ [.ins c []]) (fun d s2 => d = .non ∧ Wn g m H Q (.ref st.length) s2) (Wx g m H (WE W σ))) : wpAny (model X.prog X.w) X.A (call (.ref (g.ca c)) us) (EP X pins σ Q) X.xe s := by
  obtain ⟨fd, ps, F, b, b2⟩ := (O.cal _ _ _ _ _ h).ok
  have M := O.top.mk_ c f h2
  rw [← O.K] at F b b2 M
  refine make_at M F (O.room hn) b O.tk I rv fun p dx np nd ne => ?_
  have n2 : upd H dx (.own p) p = none := by rw [upd_ne ne.symm]; exact np
  have e1 : Ext m (put m st.length p) H (upd (upd H dx (.own p)) p (.ins (g.ca c) dx [])) := (ext_new nd fun _ _ z => z).trans (ext_new n2 (put_mm S1))
  have S2 := (S1.fresh (u := .own p) nd).alloc (u := .ins (g.ca c) dx []) (o := .ins c []) n2 rfl ⟨dx, [], upd_same, .nil, by rw [O.top.okc, h1]; rfl⟩
  refine ⟨put m st.length p, st ++ [.ins c []], .ref st.length :: ds, S2, .cons ⟨p, rfl, put_same⟩ (RDs.mono e1 _ _ r), O.MC _ _ _ _ _ _ _ (fun d s2 z m' H' v e2 S3 rv => ?_) (fun x s z => Wx.ext e1 z) h⟩
  obtain ⟨rfl, z⟩ := z
  cases rd_non rv
  exact ⟨rfl, z m' H' _ (e1.trans e2) S3 ⟨p, rfl, e2.mm _ _ put_same⟩⟩
theorem s_make {c f : Nat} {as : A} {x : Str} {p pos : Pos} {args : List Expr} (h1 : n.cl c = some x) (h2 : n.mk_ c = some f) (h3 : gloB S x = true) (h4 : okN x = true) (h5 : noStars args = true) (h6 : args = [] → as = .nil)
    (ha : PA X args (rA g T C hx W as)) : PE X (.Call (.Name x p) args [] pos) (rE g T C hx W (.make c f as)) := by
  refine ⟨fun pins s σ H Q I ⟨m, env, st, SR_, ER_, hn, h⟩ => ?_⟩
  obtain ⟨hm, _⟩ := O.top.cl c x h1
  have hk := (O.top.mk_ c f h2).kp
  rw [← O.K] at hk
  refine wpAny_Call_Name_kw (ld_glob I (O.gl h3) hm ?_ (okN_1 h4))
  cases args with
  | nil =>
    rw [h6 rfl] at h
    exact PySem.W.callWith_K0 I.kIn hk (make_run O (us := []) (vs := []) hn h1 h2 I SR_ .nil .nil h)
  | cons e es =>
    have h5 : (noStar e && noStars es) = true := h5
    rw [Bool.and_eq_true] at h5
    refine PySem.W.callWith_K (h₀ := X.base) I.ok.mod.kin hk (thn (ha.run pos pins s σ H (fun vs H1 => ∃ m1 s1 ds, SR g m1 H1 s1 ∧ RDs g m1 H1 ds vs ∧ C f (.ref s1.length :: ds) (s1 ++ [.ins c []]) (fun d s2 => d = .non ∧ Wn g m1 H1 Q (.ref s1.length) s2) (Wx g m1 H1 (WE W σ))) I ?_) fun us s1 ⟨vs, H1, I1, r, q⟩ => ⟨I1.kIn, ?_⟩) (star_cons h5.1) (star_any h5.2)
    · exact go_A O SR_ ER_ h fun ds s1 m1 H1 vs e1 S1 E1 r1 z => ⟨m1, s1, ds, S1, r1, O.MC _ _ _ _ _ _ _ (fun d s z => ⟨z.1, Wn.ext e1 z.2⟩) (fun x s z => Wx.ext e1 z) z⟩
    · obtain ⟨m1, s1, ds, S1, r1, z⟩ := q
      exact make_run O hn h1 h2 I1 S1 r1 r z
theorem ht_of {eo : Expr} {x : Str} {apos pos : Pos} {args : List Expr} (h2 : dotB eo = true) (h3 : (apos.endLine == pos.line) = true) (h4 : args.length < 30) (h5 : noStars args = true) :
    eval (.Call (.Attribute eo x apos) args [] pos) X.env = (do
      let ov ← eval eo X.env
      standAt apos.atName
      let (f, first) ← holding [ov] (getMethod ov x (do return (← importBound eo X.env).getD true))
      callWith pos f first (backTo pos (starEach args X.env)) (backToKw pos (keywordEach [] X.env))) := by
  rw [PySem.arm_eval_Call]
  unfold methodCall
  have few : methodCallForm (args.length + ([] : List Keyword).length) (backTo pos (starEach args X.env)) (backToKw pos (keywordEach [] X.env)) = true := by
    show ((backTo pos (starEach args X.env)).all (fun x => !x.1) && (backToKw pos (keywordEach [] X.env)).all (fun x => x.1.isSome) && decide (args.length + 0 + 0 < 30)) = true
    rw [star_len h5, decide_eq_true (by omega)]
    rfl
  rw [few, dot_base h2]
  have mp : methodCallPos true eo X.env apos pos = pure pos := by
    unfold methodCallPos
    rw [h3]
    rfl
  rw [mp]
  rfl
theorem s_meth {alts : List (Nat × Nat)} {o : E} {as : A} {eo : Expr} {x : Str} {apos pos : Pos} {args : List Expr} (h1 : (alts.all fun p => decide (n.mt p.1 p.2 = some x)) = true) (h2 : dotB eo = true) (h3 : (apos.endLine == pos.line) = true) (h4 : args.length < 30) (h5 : noStars args = true)
    (h6 : args = [] → as = .nil) (ho : PE X eo (rE g T C hx W o)) (ha : PA X args (rA g T C hx W as)) : PE X (.Call (.Attribute eo x apos) args [] pos) (rE g T C hx W (.meth alts o as)) := by
  refine ⟨fun pins s σ H Q I ⟨m, env, st, SR_, ER_, hn, h⟩ => ?_⟩
  refine PySem.W.methodCall_KW (pl := do return (← importBound eo X.env).getD true) (thn (ho.run pins s σ H (fun v H1 => ∃ (h : Nat) (a : Addr) (c f : Nat) (fs : List (Nat × D)) (m1 : Mp) (s1 : Store), v = .ref a ∧ m1 h = some a ∧ SR g m1 H1 s1 ∧ ER g m1 H1 σ env ∧ s1[h]? = some (.ins c fs) ∧ alts.lookup c = some f ∧
    wpA T C hx as env s1 (fun ds s2 => C f (.ref h :: ds) s2 (Wn g m1 H1 Q) (Wx g m1 H1 (WE W σ))) (Wx g m1 H1 (WE W σ))) I ?_) fun u s1 ⟨v, H1, I1, rx, q⟩ => ?_) (ht_of O h2 h3 h4 h5)
  · refine go_E O SR_ ER_ h fun y s1 m1 H1 v1 e1 S1 E1 r1 z => ?_
    split at z
    · split at z
      · split at z
        · obtain ⟨a, rfl, ea⟩ := rd_ref r1
          exact ⟨_, a, _, _, _, m1, s1, rfl, ea, S1, E1, by assumption, by assumption, wpA_mono O.MC as env s1 _ _ _ _ (fun ds s2 z2 => O.MC _ _ _ _ _ _ _ (fun d s z => Wn.ext e1 z) (fun x s z => Wx.ext e1 z) z2) (fun x s z => Wx.ext e1 z) z⟩
        · exact z.elim
      · exact z.elim
    · exact z.elim
  · obtain ⟨h', a, c, f, fs, m1, st1, rfl, ea, S1, E1, eh, el, z⟩ := q
    obtain rfl : u = Value.ref a := rx
    obtain ⟨dx, vs, hH, rf, okc⟩ := S1.get ea eh
    have okc2 : ∃ y, n.cl c = some y := by
      rw [O.top.okc] at okc
      exact Option.isSome_iff_exists.mp okc
    obtain ⟨y, hy⟩ := okc2
    have nf : n.mt c f = some x := by
      have mem : (c, f) ∈ alts := lookup_mem el
      exact of_decide_eq_true (List.all_eq_true.mp h1 _ mem)
    have ml : vs.lookup x = none := rf_none (fun k => by
      have z := O.top.nofd c f x k nf
      rw [← O.top.nm] at z
      exact z) rf
    have cl := (O.top.cl c y hy).2.cl
    have me := O.top.mt c f x nf
    rw [← O.K] at cl me
    refine getmeth_ok I1 hH cl me ml ?_
    cases args with
    | nil =>
      rw [h6 rfl] at z
      exact PySem.W.callWith_K0 (first := [.ref a]) I1.kIn me.kp (call_run O (us := [.ref a]) (vs := [.ref a]) (ds := [.ref h']) hn I1 S1 (.one ⟨a, rfl, ea⟩) (.cons rfl .nil) (.inl rfl) (by rw [List.append_nil]; exact z))
    | cons e es =>
      have h5 : (noStar e && noStars es) = true := h5
      rw [Bool.and_eq_true] at h5
      refine PySem.W.callWith_K (first := [.ref a]) (h₀ := X.base) I1.ok.mod.kin me.kp (thn (ha.run pos pins s1 σ H1 (fun vs H2 => ∃ m2 s2 ds, SR g m2 H2 s2 ∧ RDs g m2 H2 (.ref h' :: ds) (.ref a :: vs) ∧ C f (.ref h' :: ds) s2 (Wn g m2 H2 Q) (Wx g m2 H2 (WE W σ))) I1 ?_) fun us s2 ⟨vs, H2, I2, r, q⟩ => ⟨I2.kIn, ?_⟩) (star_cons h5.1) (star_any h5.2)
      · exact go_A O S1 E1 z fun ds s2 m2 H2 vs e2 S2 E2 r2 z2 => ⟨m2, s2, ds, S2, .cons ⟨a, rfl, e2.mm _ _ ea⟩ r2, O.MC _ _ _ _ _ _ _ (fun d s z => Wn.ext e2 z) (fun x s z => Wx.ext e2 z) z2⟩
      · obtain ⟨m2, s2, ds, S2, r2, z2⟩ := q
        exact call_run O (us := .ref a :: us) (vs := .ref a :: vs) hn I2 S2 r2 (.cons rfl r) (.inl rfl) (by rw [List.append_nil]; exact z2)
theorem fld_get {m : Mp} {H : Hp} {st : Store} {d : D} {v : V} {f : Nat} {x : Str} {R : QE} (hf : n.fd f = some x) (S1 : SR g m H st) (r : RD g m H d v) (h : fldQ st d f R) :
    ∃ a c dx fs v' dv, v = .ref a ∧ H a = some (.ins (g.ca c) dx fs) ∧ clsOf st d = some c ∧ Cls X.K (g.ca c) ∧ NoAttr X.K (g.ca c) x ∧ fs.lookup x = some v' ∧ RD g m H dv v' ∧ R dv st := by
  unfold fldQ at h
  split at h
  · split at h
    · rename_i c fs e0
      split at h
      · rename_i d' el
        obtain ⟨a, rfl, ea⟩ := rd_ref r
        obtain ⟨dx, vs, hH, rf, okc⟩ := S1.get ea e0
        have okc2 : ∃ y, n.cl c = some y := by
          rw [O.top.okc] at okc
          exact Option.isSome_iff_exists.mp okc
        obtain ⟨y, hy⟩ := okc2
        have cl := (O.top.cl c y hy).2.cl
        have na := O.top.noat c y f x hy hf
        rw [← O.K] at cl na
        have fl : ∃ v', vs.lookup x = some v' ∧ RD g m H d' v' := rf_get O.F.nmi (by rw [O.top.nm]; exact hf) rf el
        obtain ⟨v', hl, rv⟩ := fl
        exact ⟨a, c, dx, vs, v', _, rfl, hH, by unfold clsOf; dsimp only; rw [e0], cl, na, hl, rv, h⟩
      · exact h.elim
    · exact h.elim
  · exact h.elim
theorem s_fld {f : Nat} {o : E} {eo : Expr} {x : Str} {pos : Pos} (h1 : n.fd f = some x) (h2 : dotB eo = true) (ho : PE X eo (rE g T C hx W o)) : PE X (.Attribute eo x pos) (rE g T C hx W (.fld f o)) := by
  refine PE.weak (pe_fld ho (dot_base h2)) fun σ H Q ⟨m, env, st, SR_, ER_, h⟩ => ?_
  refine go_E O SR_ ER_ h fun y s1 m1 H1 v1 e1 S1 E1 r1 z => ?_
  obtain ⟨a, c, dx, fs, v', dv, q1, q2, _, q3, q4, q5, q6, q7⟩ := fld_get O h1 S1 r1 z
  exact ⟨a, _, dx, fs, v', q1, q2, q3, q4, q5, Wn.here S1 q6 (Wn.ext e1 q7)⟩
theorem a_nil : PA X [] (rA g T C hx W .nil) := PA.weak pa_nil fun σ H Q ⟨m, env, st, SR_, ER_, h⟩ => h m H [] (.refl _ _) SR_ .nil
theorem a_cons {e : E} {as : A} {x : Expr} {es : List Expr} (h1 : noStar x = true) (he : PE X x (rE g T C hx W e)) (ha : PA X es (rA g T C hx W as)) : PA X (x :: es) (rA g T C hx W (.cons e as)) := by
  refine PA.weak (pa_cons he ha (star_cons h1)) fun σ H Q ⟨m, env, st, SR_, ER_, h⟩ => ?_
  refine go_E O SR_ ER_ h fun y s1 m1 H1 v1 e1 S1 E1 r1 z => ?_
  refine go_A O S1 E1 (x_A O e1 z) fun ds s2 m2 H2 vs e2 S2 E2 r2 z2 => ?_
  exact z2 m2 H2 _ (e1.trans e2) S2 (.cons (RD.mono e2 _ _ r1) r2)
theorem s_pr {p : Pr} {as : A} {a0 : Expr} {args : List Expr} {x : Str} {pp pos : Pos} (h1 : x = prN p) (h3 : gloB S x = true) (h4 : okN x = true) (h5 : noStars (a0 :: args) = true) (ha : PA X (a0 :: args) (rA g T C hx W as)) :
    PE X (.Call (.Name x pp) (a0 :: args) [] pos) (rE g T C hx W (.pr p as)) := by
  have h5 : (noStar a0 && noStars args) = true := h5
  rw [Bool.and_eq_true] at h5
  by_cases hn : hx = none
  · have cp := call_pr O.K (O.calm hn) p
    have go : ∀ {σ H Q}, rE g T C hx W (.pr p as) σ H Q → tCB (rPr g p) (rA g T C hx W as) σ H Q := fun {σ H Q} ⟨m, env, st, SR_, ER_, _, h⟩ =>
      go_A O SR_ ER_ h fun ds s1 m1 H1 vs e1 S1 E1 r1 z => ⟨m1, s1, ds, S1, r1, prQ_mono (fun d s z => Wn.ext e1 z) z⟩
    subst h1
    cases p with
    | len => exact PE.weak (pe_callB cp (O.gl h3) (O.top.blt _ (by decide)) (show bootBuiltins "len" = some (.builtin "len") by decide +kernel) ha (by decide) (by decide) (star_cons h5.1) (star_any h5.2)) fun _ _ _ => go
    | abs => exact PE.weak (pe_callB cp (O.gl h3) (O.top.blt _ (by decide)) (show bootBuiltins "abs" = some (.builtin "abs") by decide +kernel) ha (by decide) (by decide) (star_cons h5.1) (star_any h5.2)) fun _ _ _ => go
    | max2 => exact PE.weak (pe_callB cp (O.gl h3) (O.top.blt _ (by decide)) PyProof.Rows.boot_max ha (by decide) (by decide) (star_cons h5.1) (star_any h5.2)) fun _ _ _ => go
    | min2 => exact PE.weak (pe_callB cp (O.gl h3) (O.top.blt _ (by decide)) PyProof.Rows.boot_min ha (by decide) (by decide) (star_cons h5.1) (star_any h5.2)) fun _ _ _ => go
    | any => exact PE.weak (pe_callB cp (O.gl h3) (O.top.blt _ (by decide)) (show bootBuiltins "any" = some (.builtin "any") by decide +kernel) ha (by decide) (by decide) (star_cons h5.1) (star_any h5.2)) fun _ _ _ => go
    | all => exact PE.weak (pe_callB cp (O.gl h3) (O.top.blt _ (by decide)) (show bootBuiltins "all" = some (.builtin "all") by decide +kernel) ha (by decide) (by decide) (star_cons h5.1) (star_any h5.2)) fun _ _ _ => go
    | sum => exact PE.weak (pe_callB cp (O.gl h3) (O.top.blt _ (by decide)) PyProof.Rows.boot_sum ha (by decide) (by decide) (star_cons h5.1) (star_any h5.2)) fun _ _ _ => go
    | max => exact PE.weak (pe_callB cp (O.gl h3) (O.top.blt _ (by decide)) PyProof.Rows.boot_max ha (by decide) (by decide) (star_cons h5.1) (star_any h5.2)) fun _ _ _ => go
    | min => exact PE.weak (pe_callB cp (O.gl h3) (O.top.blt _ (by decide)) PyProof.Rows.boot_min ha (by decide) (by decide) (star_cons h5.1) (star_any h5.2)) fun _ _ _ => go
    | int => exact PE.weak (pe_callTy cp (O.gl h3) (O.top.blt _ (by decide)) PyProof.Rows.boot_int ha (by decide) (by decide) (star_cons h5.1) (star_any h5.2)) fun _ _ _ => go
    | str => exact PE.weak (pe_callTy cp (O.gl h3) (O.top.blt _ (by decide)) PyProof.Rows.boot_str ha (by decide) (by decide) (star_cons h5.1) (star_any h5.2)) fun _ _ _ => go
    | tuple => exact PE.weak (pe_callTy cp (O.gl h3) (O.top.blt _ (by decide)) PyProof.Rows.boot_tuple ha (by decide) (by decide) (star_cons h5.1) (star_any h5.2)) fun _ _ _ => go
    | list => exact PE.weak (pe_callTy cp (O.gl h3) (O.top.blt _ (by decide)) PyProof.Rows.boot_list ha (by decide) (by decide) (star_cons h5.1) (star_any h5.2)) fun _ _ _ => go
    | bool => exact PE.weak (pe_callTy cp (O.gl h3) (O.top.blt _ (by decide)) PyProof.Rows.boot_bool ha (by decide) (by decide) (star_cons h5.1) (star_any h5.2)) fun _ _ _ => go
  · exact ⟨fun pins s σ H Q I ⟨_, _, _, _, _, h, _⟩ => absurd h hn⟩
theorem wpA_len : ∀ (as : A) (env : Env) (st : Store) (Q : List D → Store → Prop) (Xc : QX), wpA T C hx as env st Q Xc → wpA T C hx as env st (fun ds s => (∀ es, ckA n as S es = true → ds.length = es.length) ∧ Q ds s) Xc
  | .nil, env, st, Q, Xc, h => by
    refine ⟨fun es e => ?_, h⟩
    cases es with
    | nil => rfl
    | cons _ _ => cases e
  | .cons e as, env, st, Q, Xc, h => wpE_mono O.MC e env st _ _ _ _ (fun d s1 z => wpA_mono O.MC as env s1 _ _ _ _ (fun ds s2 z2 => ⟨fun es q => by
      cases es with
      | nil => cases q
      | cons x r =>
        have q : (ckE n e S x && ckA n as S r) = true := q
        rw [Bool.and_eq_true] at q
        rw [List.length_cons, List.length_cons, z2.1 r q.2], z2.2⟩) (fun _ _ z => z) (wpA_len as env s1 _ _ z)) (fun _ _ z => z) h
theorem s_tup {as : A} {es : List Expr} {k : Nat} {pos : Pos} (hc : ckA n as S es = true) (hz : es.length ≤ 1000) (ha : PA X es (rA g T C hx W as)) : PE X (.Tuple es k pos) (rE g T C hx W (.tup as)) := by
  refine PE.weak (pe_tup ha) fun σ H Q ⟨m, env, st, SR_, ER_, h⟩ => ?_
  refine go_A O SR_ ER_ (wpA_len O as env st _ _ h) fun ds s1 m1 H1 vs e1 S1 E1 r1 z => ⟨?_, fun p np => Wn.tup S1 np r1 (Wn.ext e1 z.2)⟩
  rw [r1.length, z.1 es hc]
  exact Nat.le_trans hz (by decide)
theorem s_lst {as : A} {es : List Expr} {pos : Pos} (hc : ckA n as S es = true) (hz : es.length ≤ 1000) (ha : PA X es (rA g T C hx W as)) : PE X (.List es pos) (rE g T C hx W (.lst as)) := by
  refine PE.weak (pe_lst ha) fun σ H Q ⟨m, env, st, SR_, ER_, h⟩ => ?_
  refine go_A O SR_ ER_ (wpA_len O as env st _ _ h) fun ds s1 m1 H1 vs e1 S1 E1 r1 z => ⟨?_, fun p np => Wn.newl S1 np (Wn.ext e1 z.2) r1⟩
  rw [r1.length, z.1 es hc]
  exact Nat.le_trans hz (by decide)
theorem me_ty {m' : Me} {m : Mp} {H : Hp} {st : Store} {d : D} {v : V} (S1 : SR g m H st) (r : RD g m H d v) (h : meOk m' st d) : L2.tyV X.K (meI m').1 v H := by
  unfold meOk at h
  split at h
  · cases rd_str r
    show (meI m').1 = "str"
    cases m' <;> first | rfl | cases h
  · obtain ⟨a, rfl, ea⟩ := rd_ref r
    split at h
    · rename_i e0
      obtain ⟨vs, hq, _⟩ := S1.sqL ea (.inl e0)
      rw [← O.K] at hq
      refine .inl ⟨?_, vs, hq⟩
      cases m' <;> first | rfl | cases h
    · rename_i e0
      have q := S1.get ea e0
      refine .inr (.inr (.inl ⟨?_, ?_⟩))
      · cases m' <;> first | rfl | cases h
      · obtain ⟨ps, h1, _⟩ := q
        exact .inl ⟨ps, h1⟩
    · exact h.elim
  · exact h.elim
theorem few_of {e : Expr} {es : List Expr} {pos : Pos} (h4 : (e :: es).length < 30) (h5 : noStars (e :: es) = true) : ((backTo pos (starEach (e :: es) X.env)).all (fun x => !x.1) && (backToKw pos (keywordEach [] X.env)).all (fun x => x.1.isSome)
      && decide ((e :: es).length + ([] : List Keyword).length + (if ([] : List Keyword).isEmpty then 0 else 1) < 30)) = true := by
  rw [star_len h5]
  show (true && true && decide ((e :: es).length + 0 + 0 < 30)) = true
  rw [decide_eq_true (by omega)]
  rfl
theorem s_me {m' : Me} {o : E} {as : A} {eo : Expr} {x : Str} {apos pos : Pos} {args : List Expr} (h1 : x = (meI m').2.2) (h2 : dotB eo = true) (h3 : (apos.endLine == pos.line) = true) (h4 : args.length < 30) (h5 : noStars args = true)
    (h6 : args = [] → as = .nil) (ho : PE X eo (rE g T C hx W o)) (ha : PA X args (rA g T C hx W as)) : PE X (.Call (.Attribute eo x apos) args [] pos) (rE g T C hx W (.me m' o as)) := by
  have facts : PlainAttrs (meI m').1 ∧ Slot (meI m').1 (meI m').2.2 (meI m').2.1 ∧ typeOf (.builtin (meI m').2.1) = pure (.type "method_descriptor") := by
    cases m'
    · exact ⟨PySem.F.plainAttrs_list, PySem.F.slot_list_append, PySem.F.type_list_append⟩
    · exact ⟨PySem.F.plainAttrs_list, PySem.F.slot_list_pop, PySem.F.type_list_pop⟩
    · exact ⟨PySem.F.plainAttrs_list, PySem.F.slot_list_pop, PySem.F.type_list_pop⟩
    · exact ⟨PySem.F.plainAttrs_list, PySem.F.slot_list_insert, PySem.F.type_list_insert⟩
    · exact ⟨PySem.F.plainAttrs_list, PySem.F.slot_list_extend, PySem.F.type_list_extend⟩
    · exact ⟨PySem.F.plainAttrs_list, PySem.F.slot_list_reverse, PySem.F.type_list_reverse⟩
    · exact ⟨PySem.F.plainAttrs_list, PySem.F.slot_list_clear, PySem.F.type_list_clear⟩
    · exact ⟨PySem.F.plainAttrs_list, PySem.F.slot_list_index, PySem.F.type_list_index⟩
    · exact ⟨PySem.F.plainAttrs_dict, PySem.F.slot_dict_get, PySem.F.type_dict_get⟩
    · exact ⟨PySem.F.plainAttrs_dict, PySem.F.slot_dict_get, PySem.F.type_dict_get⟩
    · exact ⟨PySem.F.plainAttrs_dict, PySem.F.slot_dict_setdefault, PySem.F.type_dict_setdefault⟩
    · exact ⟨PySem.F.plainAttrs_str, PySem.F.slot_str_split, PySem.F.type_str_split⟩
    · exact ⟨PySem.F.plainAttrs_str, PySem.F.slot_str_join, PySem.F.type_str_join⟩
  obtain ⟨f1, f2, f3⟩ := facts
  subst h1
  cases args with
  | nil =>
    refine PE.weak (pe_bm0 f1 f2 f3 (mt_me O.K m') ho (dot_base h2) h3) fun σ H Q ⟨m, env, st, SR_, ER_, h⟩ => ?_
    rw [h6 rfl] at h
    exact go_E O SR_ ER_ h fun y s1 m1 H1 v1 e1 S1 E1 r1 z => ⟨me_ty O S1 r1 z.1, m1, s1, y, [], S1, r1, .nil, meQ_mono (fun d s z => Wn.ext e1 z) z.2⟩
  | cons e es =>
    have h50 := h5
    have h5 : (noStar e && noStars es) = true := h5
    rw [Bool.and_eq_true] at h5
    refine PE.weak (pe_bm f1 f2 f3 (mt_me O.K m') ho ha (dot_base h2) (few_of O h4 h50) h3 (star_cons h5.1) (star_any h5.2)) fun σ H Q ⟨m, env, st, SR_, ER_, h⟩ => ?_
    refine go_E O SR_ ER_ h fun y s1 m1 H1 v1 e1 S1 E1 r1 z => ⟨me_ty O S1 r1 z.1, ?_⟩
    exact go_A O S1 E1 (x_A O e1 z.2) fun ds s2 m2 H2 vs e2 S2 E2 r2 z2 => ⟨m2, s2, y, ds, S2, RD.mono e2 _ _ r1, r2, meQ_mono (fun d s z => Wn.ext (e1.trans e2) z) z2⟩
theorem s_idx {a b : E} {ea eb : Expr} {pos : Pos} (h1 : ixB eb = true) (ha : PE X ea (rE g T C hx W a)) (hb : PE X eb (rE g T C hx W b)) : PE X (.Subscript ea eb pos) (rE g T C hx W (.idx a b)) := by
  refine PE.weak (pe_ix (ix_any O.F O.K (by have := O.hu; omega)) ha hb (ix_plain h1)) fun σ H Q ⟨m, env, st, SR_, ER_, h⟩ => ?_
  refine go_E O SR_ ER_ h fun x s1 m1 H1 v1 e1 S1 E1 r1 h1 => ?_
  refine go_E O S1 E1 (x_E O e1 h1) fun y s2 m2 H2 v2 e2 S2 E2 r2 h2 => ?_
  exact ⟨m2, s2, x, y, S2, RD.mono e2 _ _ r1, r2, idxQ_mono (fun d s z => Wn.ext (e1.trans e2) z) h2⟩
def rO (g : G) (T : Tab) (C : Calls) (hx : Option Exc) (W : WX) (lo : E) : TO := fun σ H Q => ∃ (m : Mp) (env : Env) (st : Store), SR g m H st ∧ ER g m H σ env ∧ wpE T C hx lo env st (fun l s => partQ l fun l' => ∀ m' H', Ext m m' H H' → SR g m' H' s → Q l' H') (Wx g m H (WE W σ))
theorem o_some {lo : E} {el : Expr} (h : PE X el (rE g T C hx W lo)) : PO X (some el) (rO g T C hx W lo) := by
  refine ⟨fun pins s σ H Q I ⟨m, env, st, SR_, ER_, hw⟩ => ?_⟩
  rw [evalPart_some]
  refine thn (h.run pins s σ H (fun x H1 => (∃ i, x = .int i ∧ Q (some i) H1) ∨ (x = .non ∧ Q none H1)) I ?_) fun u s1 ⟨x, H1, I1, r1, q1⟩ => ?_
  · refine go_E O SR_ ER_ hw fun y s1 m1 H1 v1 e1 S1 E1 r1 z => ?_
    unfold partQ at z
    split at z
    · cases rd_int r1
      exact .inl ⟨_, rfl, z m1 H1 e1 S1⟩
    · cases rd_non r1
      exact .inr ⟨rfl, z m1 H1 e1 S1⟩
    · exact z.elim
  · rcases q1 with ⟨i, rfl, q⟩ | ⟨rfl, q⟩
    · obtain ⟨t, rfl⟩ := r1
      exact ⟨some i, H1, I1, .int i t, q⟩
    · cases (show u = Value.none from r1)
      exact ⟨none, H1, I1, .none, q⟩
theorem o_none : PO X none (rO g T C hx W .abs0) := by
  refine ⟨fun pins s σ H Q I ⟨m, env, st, SR_, ER_, hw⟩ => ?_⟩
  exact po_none.run pins s σ H Q I (hw m H (.refl _ _) SR_)
theorem s_sli {a lo hi : E} {ea : Expr} {el eh : Option Expr} {pos p2 : Pos} (ha : PE X ea (rE g T C hx W a)) (hl : PO X el (rO g T C hx W lo)) (hh : PO X eh (rO g T C hx W hi)) : PE X (.Subscript ea (.Slice el eh none p2) pos) (rE g T C hx W (.sli a lo hi)) := by
  refine PE.weak (pe_slice (sl_any O.K) ha hl hh) fun σ H Q ⟨m, env, st, SR_, ER_, h⟩ => ?_
  refine go_E O SR_ ER_ h fun x s1 m1 H1 v1 e1 S1 E1 r1 h1 => ?_
  refine ⟨m1, env, s1, S1, E1, wpE_mono O.MC lo env s1 _ _ _ _ (fun l s2 z => partQ_mono (fun l' z m2 H2 e2 S2 => ?_) z) (fun _ _ z => Wx.ext e1 z) h1⟩
  refine ⟨m2, env, s2, S2, E1.mono e2, wpE_mono O.MC hi env s2 _ _ _ _ (fun u s3 z => partQ_mono (fun u' z m3 H3 e3 S3 => ?_) z) (fun _ _ z => Wx.ext (e1.trans e2) z) z⟩
  exact ⟨m3, s3, x, S3, RD.mono (e2.trans e3) _ _ r1, sliQ_mono (fun d s z => Wn.ext ((e1.trans e2).trans e3) z) z⟩
inductive QD (X : Cx) (R : E → TE) : List (Option Expr) → List Expr → A → Prop where
  | nil : QD X R [] [] .nil
  | cons {k v : E} {as : A} {ek ev : Expr} {ks : List (Option Expr)} {vs : List Expr} (hk : PE X ek (R k)) (hv : PE X ev (R v)) (t : QD X R ks vs as) : QD X R (some ek :: ks) (ev :: vs) (.cons k (.cons v as))
omit O in
theorem QD.lens {X : Cx} {R : E → TE} {ks : List (Option Expr)} {vs : List Expr} {as : A} (h : QD X R ks vs as) : ks.all (·.isSome) = true ∧ ks.length = vs.length := by
  induction h with
  | nil => exact ⟨rfl, rfl⟩
  | cons _ _ _ ih => exact ⟨by rw [List.all_cons, ih.1]; rfl, by simp [ih.2]⟩
def twos : List V → List (V × V)
  | a :: b :: r => (a, b) :: twos r
  | _ => []
theorem d_run {ks : List (Option Expr)} {vs : List Expr} {as : A} {pos : Pos} (h : QD X (rE g T C hx W) ks vs as) : ∃ trs, PPs X pos ks vs trs ∧ ∀ (σ : L2.St) (H : Hp) (m : Mp) (env : Env) (st : Store) (R : List D → Store → Prop) (Q : List (V × V) → Hp → Prop), SR g m H st → ER g m H σ env →
    wpA T C hx as env st R (Wx g m H (WE W σ)) → (∀ ds s1 m1 H1 us, Ext m m1 H H1 → SR g m1 H1 s1 → RDs g m1 H1 ds us → R ds s1 → Q (twos us) H1) → tPairs trs σ H Q := by
  induction h with
  | nil => exact ⟨[], pps_nil, fun σ H m env st R Q S1 E1 z k => k [] st m H [] (.refl _ _) S1 rfl z⟩
  | @cons k v as ek ev ks vs hk hv t ih =>
    obtain ⟨trs, j, ih⟩ := ih
    refine ⟨_ :: trs, pps_cons hk hv j, fun σ H m env st R Q S1 E1 z kk => ?_⟩
    refine go_E O S1 E1 z fun d s1 m1 H1 u e1 S2 E2 r z => ?_
    refine go_E O S2 E2 (x_E O e1 z) fun d2 s2 m2 H2 u2 e2 S3 E3 r2 z => ?_
    refine ih σ H2 m2 env s2 (fun ds s => R (d :: d2 :: ds) s) (fun ps H3 => Q ((u, u2) :: ps) H3) S3 E3 (wpA_mono O.MC as env s2 _ _ _ _ (fun _ _ z => z) (fun _ _ z => Wx.ext (e1.trans e2) z) z) fun ds s3 m3 H3 us e3 S4 r3 z => ?_
    exact kk (d :: d2 :: ds) s3 m3 H3 (u :: u2 :: us) ((e1.trans e2).trans e3) S4 (.cons (RD.mono (e2.trans e3) _ _ r) (.cons (RD.mono e3 _ _ r2) r3)) z
omit O in
theorem pairs_two : ∀ {ds : List D} {ps : List (D × D)} {m : Mp} {H : Hp} {us : List V}, pairsOf ds = some ps → RDs g m H ds us → (ps.all fun p => keyD p.1) = true → ∃ kvs : List (Key × V), twos us = kvs.map (fun kv => (kV kv.1, kv.2)) ∧ kvs.length = ps.length ∧ RK g m H ps kvs
  | [], ps, m, H, us, e, r, _ => by
    cases e
    rw [show us = [] from r]
    exact ⟨[], rfl, rfl, .nil⟩
  | [_], ps, m, H, us, e, r, _ => by cases e
  | k :: v :: ds, ps, m, H, us, e, r, hk => by
    obtain ⟨q, e1, e2⟩ := Option.map_eq_some_iff.mp (show (pairsOf ds).map (fun ps => (k, v) :: ps) = some ps from e)
    subst e2
    obtain ⟨u, us, rfl, ru, r⟩ := r
    obtain ⟨w, us, rfl, rw', r⟩ := r
    rw [List.all_cons, Bool.and_eq_true] at hk
    obtain ⟨kvs, h1, h2, h3⟩ := pairs_two e1 r hk.2
    obtain ⟨kk, rfl⟩ := key_cases hk.1
    refine ⟨(kk, w) :: kvs, ?_, by simp [h2], .cons ⟨rfl, rw'⟩ h3⟩
    rw [key_flat ru]
    show (kV kk, w) :: twos us = _
    rw [h1]
    rfl
omit O in
theorem rk_merge {m : Mp} {H : Hp} : ∀ {ps : List (D × D)} {kvs : List (Key × V)} {acc : List (D × D)} {acc' : List (Key × V)}, RK g m H ps kvs → RK g m H acc acc' → RK g m H (ps.foldl (fun acc p => putK acc p.1 p.2) acc) (kvs.foldl (fun acc kv => L2.putK acc kv.1 kv.2) acc')
  | _, _, _, _, .nil, h => h
  | _, _, _, _, .cons (a := p) (b := q) hp t, h => by
    rw [List.foldl_cons, List.foldl_cons]
    refine rk_merge t ?_
    rw [hp.1]
    exact rk_put hp.2 h
theorem s_dic {as : A} {ks : List (Option Expr)} {vs : List Expr} {pos : Pos} (h : QD X (rE g T C hx W) ks vs as) (h15 : ks.length ≤ 15) : PE X (.Dict ks vs pos) (rE g T C hx W (.dic as)) := by
  have start : ∀ {H : Hp} {m : Mp} {st : Store} {p : Addr}, SR g m H st → H p = none → SR g (put m st.length p) (upd H p (.dK [])) (st ++ [.dic []]) := fun S1 np => S1.alloc (o := .dic []) np rfl ⟨[], upd_same, .nil⟩
  cases h with
  | nil =>
    refine PE.weak pe_dnewK fun σ H Q ⟨m, env, st, SR_, ER_, h⟩ p np => ?_
    have h : dispQ (st ++ [.dic []]) st.length [] (fun d s => ∀ m' H' v, Ext m m' H H' → SR g m' H' s → RD g m' H' d v → Q v H') := h
    unfold dispQ at h
    rw [List.getElem?_concat_length] at h
    have e : (st ++ [Y.O.dic []]).set st.length (.dic (mergeD [])) = st ++ [Y.O.dic []] := by
      rw [List.set_append_right _ _ (Nat.le_refl _), Nat.sub_self]
      rfl
    have h := h.2.2
    rw [e] at h
    exact h _ _ _ (ext_new np (put_mm SR_)) (start SR_ np) ⟨p, rfl, put_same⟩
  | @cons k v as ek ev ks vs hk hv t =>
    obtain ⟨trs, j, run⟩ := d_run O (pos := pos) (QD.cons hk hv t)
    have ln := (QD.cons hk hv t).lens
    refine PE.weak (pe_disp j ln.1 ln.2 (fun z => by cases z) h15) fun σ H Q ⟨m, env, st, SR_, ER_, h⟩ p np => ?_
    have e0 : Ext m (put m st.length p) H (upd H p (.dK [])) := ext_new np (put_mm SR_)
    refine run σ _ _ env _ _ _ (start SR_ np) (ER_.mono e0) (wpA_mono O.MC _ env _ _ _ _ _ (fun _ _ z => z) (fun _ _ z => Wx.ext e0 z) h) fun ds s1 m1 H1 us e1 S1 r1 z => ?_
    have mp : m1 st.length = some p := e1.mm _ _ put_same
    unfold dispQ at z
    split at z
    · rename_i ps e2 e3
      obtain ⟨q1, q2, ro⟩ := S1.get mp e3
      obtain ⟨kvs, k1, k2, k3⟩ := pairs_two e2 r1 z.1
      cases ro with
      | nil =>
        refine ⟨q2, kvs, k1, by rw [k2]; exact z.2.1, ?_⟩
        have x : Ext m1 m1 H1 (upd H1 p (.dK (mergeK [] kvs))) := ext_mut (by rw [q2]; trivial)
        exact z.2.2 m1 _ (.ref p) ((e0.trans e1).trans x) (S1.write mp e3 rfl rfl ⟨_, upd_same, RK.mono x (rk_merge k3 .nil)⟩) ⟨p, rfl, mp⟩
    · exact z.elim
inductive QF (X : Cx) (R : E → TE) : List Expr → A → Prop where
  | nil : QF X R [] .nil
  | fmt {e : E} {as : A} {x : Expr} {es : List Expr} {p : Pos} (h : PE X x (R e)) (t : QF X R es as) : QF X R (.FormattedValue x (-1) none p :: es) (.cons e as)
  | con {y : List Nat} {as : A} {k : Nat} {p : Pos} {es : List Expr} (t : QF X R es as) : QF X R (.Constant (.str ⟨y.toArray⟩) k p :: es) (.cons (.con (.str y)) as)
theorem f_run {es : List Expr} {as : A} (h : QF X (rE g T C hx W) es as) : ∃ ts, PJ X es ts ∧ ∀ (acc : List Nat) (σ : L2.St) (H : Hp) (m : Mp) (env : Env) (st : Store) (Q : VK), SR g m H st → ER g m H σ env →
    wpF T C hx as env st acc (fun y s1 => Wn g m H Q (.str y) s1) (Wx g m H (WE W σ)) → tJs ts ⟨acc.toArray⟩ σ H fun out H1 => Q (.str out) H1 := by
  induction h with
  | nil => exact ⟨[], .nil, fun acc σ H m env st Q S1 E1 z => Wn.str S1 z⟩
  | @fmt e as x es p h t ih =>
    obtain ⟨ts, j, k⟩ := ih
    refine ⟨_ :: ts, .cons (pe_fmt h) j, fun acc σ H m env st Q S1 E1 z => ?_⟩
    refine go_E O S1 E1 z fun d s1 m1 H1 v e1 S2 E2 r z => ?_
    have nxt : ∀ y : List Nat, (acc ++ y).length ≤ line → wpF T C hx as env s1 (acc ++ y) (fun y s1 => Wn g m H Q (.str y) s1) (Wx g m H (WE W σ)) → ∃ w : Str, V.str ⟨y.toArray⟩ = .str w ∧ ((⟨acc.toArray⟩ : Str) ++ w).length ≤ sizeLine ∧ tJs ts ((⟨acc.toArray⟩ : Str) ++ w) σ H1 fun out H1 => Q (.str out) H1 := fun y l z => by
      refine ⟨⟨y.toArray⟩, rfl, ?_, ?_⟩
      · rw [str_app, str_len]
        exact l
      · rw [str_app]
        exact k (acc ++ y) σ H1 m1 env s1 Q S2 E2 (wpF_mono O.MC as env s1 _ _ _ _ _ (fun y s z => Wn.ext e1 z) (fun _ _ z => Wx.ext e1 z) z)
    unfold fmtQ at z
    split at z
    · cases rd_str r
      exact .inl ⟨_, rfl, by rw [str_len]; exact z.1, nxt _ z.2.1 z.2.2⟩
    · cases rd_int r
      refine .inr ⟨_, rfl, z.1, ?_⟩
      have q := nxt _ z.2.1 z.2.2
      unfold decI at q
      rw [str_codes] at q
      exact q
    · exact z.elim
  | @con y as kk p es t ih =>
    obtain ⟨ts, j, k⟩ := ih
    refine ⟨_ :: ts, .cons pe_str j, fun acc σ H m env st Q S1 E1 z => ?_⟩
    have z : y.length ≤ line ∧ (acc ++ y).length ≤ line ∧ wpF T C hx as env st (acc ++ y) (fun y s1 => Wn g m H Q (.str y) s1) (Wx g m H (WE W σ)) := z
    refine ⟨⟨y.toArray⟩, rfl, ?_, ?_⟩
    · rw [str_app, str_len]
      exact z.2.1
    · rw [str_app]
      exact k (acc ++ y) σ H m env st Q S1 E1 z.2.2
theorem s_fstr {as : A} {x y : Expr} {r : List Expr} {pos : Pos} (h : QF X (rE g T C hx W) (x :: y :: r) as) : PE X (.JoinedStr (x :: y :: r) pos) (rE g T C hx W (.fstr as)) := by
  obtain ⟨ts, j, k⟩ := f_run O h
  exact PE.weak (pe_joined j) fun σ H Q ⟨m, env, st, SR_, ER_, h⟩ => k [] σ H m env st Q SR_ ER_ h
end
end
end Y
set_option linter.all false
set_option maxHeartbeats 4000000
set_option maxRecDepth 100000
namespace Y
open PySem PySem.Spec PyProof.Rows L2 RZ
def ItxT (K : PySem.W.Frag) (x : Str) (b : Addr) (N : Nat) : It where
  go i H := ∃ (ys : List V) (y : V) (c : Nat), SqT K H b ys ∧ ys.length = N ∧ x.cps[i]? = some c ∧ ys[i]? = some y
  yld i H v H' := ∃ T c y, v = .ref T ∧ H T = none ∧ H' = upd H T (.tup [.str ⟨#[c]⟩, y]) ∧ x.cps[i]? = some c ∧ ∀ ys, SqT K H b ys → ys[i]? = some y
  stop i H := ∃ ys : List V, SqT K H b ys ∧ ys.length = N ∧ (x.cps.size ≤ i ∨ N ≤ i)
theorem zip_sep {I b : Nat} (h : b < I) : ZipSep2 (I + 4) (I + 2) (I + 3) I (I + 1) [I] [I + 1, b] := by
  constructor <;> first
    | exact List.mem_cons_self
    | exact fun z => absurd (show (_ : Nat) = _ from z) (by omega)
    | (intro z
       rcases List.mem_cons.mp z with e | e
       · exact absurd (show (_ : Nat) = _ from e) (by omega)
       · first
         | exact absurd e List.not_mem_nil
         | exact absurd (show (_ : Nat) = _ from List.mem_singleton.mp e) (by omega))
structure TxAt (x : Str) (t : Tok) (b : Addr) (N z TI TO i1 i2 : Addr) (i : Nat) (h : Heap) : Prop where
  z : IsZip h z TI TO .none
  ti : IsTupOf2 h TI (.ref i1) (.ref i2)
  out : ∃ u v, IsTupOf2 h TO u v
  one : h.IsStrIter i1 (strIterType x) x t i
  two : h.IsTupleIter i2 b i
  l1 : i ≤ x.cps.size
  l2 : i ≤ N
theorem fpl {x z TI TO i1 i2 : Addr} (h : x ∈ [z, TI, TO, i1, i2]) : x = z ∨ x = TI ∨ x = TO ∨ x = i1 ∨ x = i2 := by simpa using h
theorem turn_xT {P : Program} {w : World} {K : PySem.W.Frag} {es : List Expr} {kk : Nat} {tpos : Pos} {x : Str} {t : Tok} {b : Addr} {N z TI TO i1 i2 : Nat} (S : ZipSep2 z TI TO i1 i2 [i1] [i2, b]) (hb : b ≠ i2) :
    Turn P w K (.Tuple es kk tpos) (ItxT K x b N) [z, TI, TO, i1, i2] z (TxAt x t b N z TI TO i1 i2) := by
  have zi1 : i1 ≠ z := S.zi1.symm
  have zi2 : i2 ≠ z := S.zi2.symm
  have Ti1 : i1 ≠ TO := S.Ti1.symm
  have Ti2 : i2 ≠ TO := S.Ti2.symm
  have i12 : i1 ≠ i2 := fun e => S.sep1_2 (by rw [e]; exact List.mem_cons_self)
  refine { mem := List.mem_cons_self, obj := fun i h st c hc => ?_, keep := fun i h h' st k => ?_, item := ?_, done := ?_, self := fun A i s Q E st h => wpAny_pyIter_zip st.z h }
  · obtain ⟨u, v, ho⟩ := st.out
    obtain ⟨o1, e1, _, d1⟩ := st.one
    obtain ⟨o2, e2, _, d2⟩ := st.two
    rcases fpl hc with rfl | rfl | rfl | rfl | rfl
    · exact ⟨_, st.z, fun v q => by cases q⟩
    · exact ⟨_, st.ti, fun v q => by cases q⟩
    · exact ⟨_, ho, fun v q => by cases q⟩
    · exact ⟨o1, e1, fun v q => by rw [d1] at q; cases q⟩
    · exact ⟨o2, e2, fun v q => by rw [d2] at q; cases q⟩
  · obtain ⟨u, v, ho⟩ := st.out
    obtain ⟨o1, e1, r1⟩ := st.one
    obtain ⟨o2, e2, r2⟩ := st.two
    exact ⟨k _ (by simp) _ st.z, k _ (by simp) _ st.ti, ⟨u, v, k _ (by simp) _ ho⟩, ⟨o1, k _ (by simp) _ e1, r1⟩, ⟨o2, k _ (by simp) _ e2, r2⟩, st.l1, st.l2⟩
  · intro X hP hw hK hc i pins s σ H E I hf st hg
    subst hP hw hK
    obtain ⟨ys, y, c, hq, hn, hx, hy⟩ := hg
    obtain ⟨u0, v0, ho⟩ := st.out
    obtain ⟨its, rv, p2, _⟩ := I.tuple hq
    obtain ⟨w2, hu2, ru2⟩ := rv.get hy
    have hh : X.A.handled = none := I.ok.hd hc
    have D1 := Draws.text (prog := X.prog) (w := X.w) (A := X.A.in1) hh i1 x t
    have D2 := Draws.tuple (prog := X.prog) (w := X.w) (A := X.A.in1) hh i2 b hb its.toArray
    have hzl : z < s.heap.objs.size := Heap.lt_size st.z
    have n1 : i < x.cps.size := by
      rcases Nat.lt_or_ge i x.cps.size with q | q
      · exact q
      · rw [Array.getElem?_eq_none q] at hx; cases hx
    have n2 : i < its.toArray.size := by
      have := (List.getElem?_eq_some_iff.mp hu2).1
      simpa using this
    refine wpAny_pyNext_zipD2_item S D1 D2 st.z st.ti ho st.one ⟨st.two, p2⟩ n1 n2 fun x1 x2 h' tk q1 q2 z' to' one' two' hT hsz hk => ?_
    obtain ⟨c', u', ec, rfl⟩ := q1
    rw [hx] at ec
    cases ec
    have e2 : x2 = w2 := by
      have q2 : its.toArray[i]? = some x2 := q2
      rw [List.getElem?_toArray, hu2] at q2
      exact (Option.some.inj q2).symm
    subst e2
    refine ⟨_, rfl, wpAny_letOwnedTupleGo_zip (s := { s with heap := h', toks := tk }) z' fun h'' z'' sb => ?_⟩
    have at2 : ∀ (a : Addr) (o : Obj), a ≠ z → h'.get? a = some o → h''.get? a = some o := fun a o ne e => (sb.2 a ne).trans e
    have T2 := at2 _ _ (Nat.ne_of_gt hzl) hT
    have mk : ObjOk X.prog X.w (upd H s.heap.objs.size (.tup [.str ⟨#[c]⟩, y])) h'' s.heap.objs.size (.tup [.str ⟨#[c]⟩, y]) := by
      refine ⟨?_, [.str ⟨#[c]⟩ u', x2], .cons ⟨u', rfl⟩ (.cons ru2 .nil), ⟨_, T2, rfl, _, rfl⟩⟩
      show 2 ≤ sizeLine
      decide
    have far : ∀ a (o : Obj), a ∉ [z, TI, TO, i1, i2] → s.heap.get? a = some o → h''.get? a = some o := fun a o na e => by
      simp only [List.mem_cons, List.not_mem_nil, or_false, not_or] at na
      exact at2 a o na.1 (hk a o na.1 na.2.2.1 na.2.2.2.1 na.2.2.2.2 e)
    have I1 : Inv X pins σ (upd H s.heap.objs.size (.tup [.str ⟨#[c]⟩, y])) { s with heap := h'', toks := tk } := I.turnedNew (t' := tk) (ch := [z, TI, TO, i1, i2]) far hf (Nat.le_refl _) mk
    obtain ⟨oa, a1, a2⟩ := one'
    obtain ⟨ob, b1, b2⟩ := two'.1
    refine ⟨.ref s.heap.objs.size, _, I1, rfl, ⟨_, c, y, rfl, I.hok.fresh (Nat.le_refl _), rfl, hx, fun l hl => ?_⟩, ⟨z'', ?_, ⟨_, _, at2 _ _ S.TOz to'⟩, ⟨oa, at2 _ _ zi1 a1, a2⟩, ⟨ob, at2 _ _ zi2 b1, b2⟩, n1, ?_⟩, fun a ha => ?_⟩
    · rw [I.tuple_inj hl hq]
      exact hy
    · exact at2 _ _ S.TIz (hk _ _ S.TIz S.TITO S.TIi1 S.TIi2 st.ti)
    · have := rv.length
      simp at n2
      omega
    · have lt : a < s.heap.objs.size := by
        obtain ⟨o1, e1, _⟩ := st.one
        obtain ⟨o2, e2, _⟩ := st.two
        rcases fpl ha with rfl | rfl | rfl | rfl | rfl
        · exact hzl
        · exact Heap.lt_size st.ti
        · exact Heap.lt_size ho
        · exact Heap.lt_size e1
        · exact Heap.lt_size e2
      rw [upd_ne (Nat.ne_of_lt lt)]
      exact (hf a ha).1
  · intro X hP hw hK hc i pins s σ H E I hf st hg
    subst hP hw hK
    obtain ⟨ys, hq, hn, hend⟩ := hg
    obtain ⟨u0, v0, ho⟩ := st.out
    obtain ⟨its, rv, p2, _⟩ := I.tuple hq
    have hh : X.A.handled = none := I.ok.hd hc
    have len := rv.length
    have l1 := st.l1
    have l2 := st.l2
    refine wpAny_pyNext_zipD2_end S (Draws.text (prog := X.prog) (w := X.w) (A := X.A.in1) hh i1 x t) (Draws.tuple (prog := X.prog) (w := X.w) (A := X.A.in1) hh i2 b hb its.toArray) st.z st.ti ho st.one ⟨st.two, p2⟩ l1 (by simp; omega) (by simp; omega) fun h' tk hk => ⟨rfl, ?_⟩
    refine I.turnedL (t' := tk) (ch := [z, TI, TO, i1, i2]) (fun a o na e => ?_) hf
    simp only [List.mem_cons, List.not_mem_nil, or_false, not_or] at na
    exact hk a o na.1 na.2.2.1 na.2.2.2.1 na.2.2.2.2 e
def iZipX (K : PySem.W.Frag) (ta : TA) : TI := fun σ H R => ta σ H fun vs H1 => (∃ a b xs ys, vs = [.ref a, .ref b] ∧ ((SqL K H1 a xs ∧ SqL K H1 b ys ∧ R (Itz K a b) H1) ∨ (SqT K H1 a xs ∧ SqT K H1 b ys ∧ R (ItzT K a b) H1))) ∨
  ∃ x b ys, vs = [.str x, .ref b] ∧ SqT K H1 b ys ∧ R (ItxT K x b ys.length) H1
theorem pi_zipX {X : Cx} {e e2 : Expr} {ta : TA} {p pos tpos : Pos} {es : List Expr} {kk : Nat} (hg : Gl X "zip") (hm : X.mg "zip" = none) (ha : PA X [e, e2] ta) (hs : starEach [e, e2] X.env = (false, eval e X.env) :: starEach [e2] X.env)
    (hpl : (backTo pos (starEach [e2] X.env)).any (·.1) = false) : PI X (.Tuple es kk tpos) (.Call (.Name "zip" p) [e, e2] [] pos) (iZipX X.K ta) := by
  refine ⟨fun pins s σ H R I h => Call_ (ld_blt I hg hm PyProof.Rows.boot_zip (PyProof.Rows.callWith_type1 (thn (ha.run pos pins s σ H _ I h) fun us s1 ⟨vs, H1, I1, r1, q1⟩ => ?_) hs hpl))⟩
  have fresh : ∀ c, c ∈ [s1.heap.objs.size + 4, s1.heap.objs.size + 2, s1.heap.objs.size + 3, s1.heap.objs.size, s1.heap.objs.size + 1] → FpOk X pins H1 c := fun c hc => by
    have le : s1.heap.objs.size ≤ c := by
      rcases fpl hc with q | q | q | q | q <;> exact (show (_ : Nat) = _ from q) ▸ (by omega)
    exact I1.fpOk le (I1.hok.fresh le)
  rcases q1 with ⟨a, b, xs, ys, rfl, q⟩ | ⟨x, b, ys, rfl, hq, q⟩
  · obtain ⟨u, v, rfl, ru, rv⟩ : ∃ u v, us = [u, v] ∧ RelV (.ref a) u ∧ RelV (.ref b) v := by
      cases r1 with
      | cons r rr => cases rr with
        | cons r' rr => cases rr; exact ⟨_, _, rfl, r, r'⟩
    cases ru
    cases rv
    rcases q with ⟨h1, h2, q⟩ | ⟨h1, h2, q⟩
    · obtain ⟨i1, _, p1, _⟩ := I1.list h1
      obtain ⟨i2, _, p2, _⟩ := I1.list h2
      refine zip_begins2 (begins_list a i1.toArray) (begins_list b i2.toArray) p1.isList p2.isList fun h' k1 k2 k3 k4 k5 k6 kk => wpAny_pyIter_zip k1 ?_
      exact ⟨_, _, _, _, H1, rfl, I1.kept (t' := s1.toks) kk, turn_zip (PySem.W.ktu_apart _ a b p1.lt p2.lt), ⟨k1, k2, ⟨_, _, k3⟩, ⟨_, k4, rfl, rfl⟩, ⟨_, k5, rfl, rfl⟩⟩, fresh, q⟩
    · obtain ⟨i1, _, p1, _⟩ := I1.tuple h1
      obtain ⟨i2, _, p2, _⟩ := I1.tuple h2
      obtain ⟨o1, g1, _⟩ := id p1
      obtain ⟨o2, g2, _⟩ := id p2
      refine zip_begins2 (begins_tuple a i1.toArray) (begins_tuple b i2.toArray) p1 p2 fun h' k1 k2 k3 k4 k5 k6 kk => wpAny_pyIter_zip k1 ?_
      exact ⟨_, _, _, _, H1, rfl, I1.kept (t' := s1.toks) kk, turn_zipT (PySem.W.ktu_apart _ a b (Heap.lt_size g1) (Heap.lt_size g2)), ⟨k1, k2, ⟨_, _, k3⟩, ⟨_, k4, rfl, rfl⟩, ⟨_, k5, rfl, rfl⟩⟩, fresh, q⟩
  · obtain ⟨u, v, rfl, ru, rv⟩ : ∃ u v, us = [u, v] ∧ RelV (.str x) u ∧ RelV (.ref b) v := by
      cases r1 with
      | cons r rr => cases rr with
        | cons r' rr => cases rr; exact ⟨_, _, rfl, r, r'⟩
    obtain ⟨t, rfl⟩ := ru
    cases rv
    obtain ⟨i2, _, p2, _⟩ := I1.tuple hq
    obtain ⟨o2, g2, _⟩ := id p2
    have lt := Heap.lt_size g2
    refine zip_begins2 (begins_text x t) (begins_tuple b i2.toArray) trivial p2 fun h' k1 k2 k3 k4 k5 k6 kk => wpAny_pyIter_zip k1 ?_
    exact ⟨_, _, _, _, H1, rfl, I1.kept (t' := s1.toks) kk, turn_xT (t := t) (zip_sep lt) (Nat.ne_of_lt (Nat.lt_succ_of_lt lt)), ⟨k1, k2, ⟨_, _, k3⟩, ⟨_, k4, rfl, rfl⟩, ⟨_, k5, rfl, rfl⟩, Nat.zero_le _, Nat.zero_le _⟩, fresh, q⟩
end Y
set_option linter.all false
set_option maxHeartbeats 4000000
set_option maxRecDepth 100000
namespace Y
open PySem PySem.Spec PyProof.Rows L2 RZ
def tyVv (g : G) : Ty → V
  | .int => .ty "int" | .str => .ty "str" | .bool => .ty "bool" | .tuple => .ty "tuple" | .list => .ty "list" | .dict => .ty "dict"
  | .own c => .ref (g.ca c)
theorem clsV_of (g : G) (t : Ty) : ClsV (tyVv g t) (tyV1 g t) := by
  cases t <;> first | exact .ty _ | exact .own _
theorem clsVs_of (g : G) : ∀ ts : List Ty, Paired ClsV (ts.map (tyVv g)) (ts.map (tyV1 g))
  | [] => .nil
  | t :: ts => .cons (clsV_of g t) (clsVs_of g ts)
def tySs : Option Ty → String
  | some .int => "int" | some .str => "str" | some .bool => "bool" | some .tuple => "tuple" | some .list => "list" | some .dict => "dict"
  | _ => "NoneType"
def isTyB : Option Ty → Ty → Bool
  | none, _ => false
  | some .bool, t => decide (t = .bool) || decide (t = .int)
  | some a, t => decide (a = t)
theorem kit_bb (K : PySem.W.Frag) (T : Tab) (g : G) (a : Option Ty) (t : Ty) (ha : ∀ c, a ≠ some (.own c)) (ht : ∀ c, t ≠ .own c) : PySem.W.kitOne K (.type (tySs a)) (tyV1 g t) = some (isTy T a t) := by
  have k : kitB (tySs a) (tySs (some t)) = some (isTyB a t) := by
    cases a with
    | none => cases t <;> first | decide +kernel | exact absurd rfl (ht _)
    | some a => cases a <;> first
      | exact absurd rfl (ha _)
      | (cases t <;> first | decide +kernel | exact absurd rfl (ht _))
  have e : isTy T a t = isTyB a t := by
    cases a with
    | none => rfl
    | some a => cases a <;> first
      | exact absurd rfl (ha _)
      | rfl
  have v : tyV1 g t = .type (tySs (some t)) := by
    cases t <;> first | rfl | exact absurd rfl (ht _)
  rw [e, v]
  exact kit_ty k
section
variable {g : G} {T : Tab} {n : Nm} {C : Calls} {L : Nat} {hx : Option Exc} {W : WX} {S : Sta} {X : Cx}
section
variable (O : CxOk g T n C L hx W S X)
include O
def okTy (n : Nm) (t : Ty) : Prop := ∀ c, t = .own c → (n.cl c).isSome = true
theorem kit_b (a : Option Ty) (t : Ty) (ha : ∀ c, a ≠ some (.own c)) (ht : okTy n t) : PySem.W.kitOne X.K (.type (tySs a)) (tyV1 g t) = some (isTy T a t) := by
  by_cases z : ∃ c, t = .own c
  · obtain ⟨c, rfl⟩ := z
    obtain ⟨y, hy⟩ := Option.isSome_iff_exists.mp (ht c rfl)
    have mem : tySs a ∈ ["NoneType", "bool", "int", "str", "tuple", "list", "dict"] := by
      cases a with
      | none => decide
      | some a => cases a <;> first | decide | exact absurd rfl (ha _)
    have q := O.top.kit2 c y (tySs a) hy mem
    rw [O.K]
    refine q.trans ?_
    cases a with
    | none => rfl
    | some a => cases a <;> first | rfl | exact absurd rfl (ha _)
  · exact kit_bb X.K T g a t ha fun c e => z ⟨c, e⟩
theorem ty_val {m : Mp} {H : Hp} {st : Store} {d : D} {v : V} (S1 : SR g m H st) (r : RD g m H d v) (h : hasTy st d = true) : ∃ t, TyX X.K H v t ∧ ∀ ty, okTy n ty → PySem.W.kitOne X.K t (tyV1 g ty) = some (isTy T (tyOf st d) ty) := by
  cases d with
  | non => cases rd_non r; exact ⟨_, .base .non, fun ty h => kit_b O none ty (fun c e => nomatch e) h⟩
  | bl b => cases rd_bl r; exact ⟨_, .base (.bl b), fun ty h => kit_b O (some .bool) ty (fun c e => nomatch e) h⟩
  | int i => cases rd_int r; exact ⟨_, .base (.int i), fun ty h => kit_b O (some .int) ty (fun c e => nomatch e) h⟩
  | str x => cases rd_str r; exact ⟨_, .base (.str _), fun ty h => kit_b O (some .str) ty (fun c e => nomatch e) h⟩
  | tup ds =>
    obtain ⟨a, vs, rfl, hq, _⟩ := rd_tup r
    refine ⟨.type "tuple", ?_, fun ty h => kit_b O (some .tuple) ty (fun c e => nomatch e) h⟩
    rw [← O.K] at hq
    rcases hq with (e | ⟨o, e⟩) | e
    · exact .base (.tup e)
    · exact .fTuple e
    · obtain ⟨o, its, _, hk, hc, _⟩ := e
      exact .kTuple hk hc
  | kon k => cases h
  | ref h' =>
    obtain ⟨a, rfl, ea⟩ := rd_ref r
    cases e0 : st[h']? with
    | none =>
      have h : (st[h']?).isSome = true := h
      rw [e0] at h
      cases h
    | some o =>
      have ro := S1.get ea e0
      have ty0 : tyOf st (.ref h') = (match o with
        | .lst _ => some Ty.list
        | .fro _ => some Ty.list
        | .dic _ => some Ty.dict
        | .ins c _ => some (Ty.own c)) := by
        unfold tyOf
        simp only [e0]
        cases o <;> rfl
      rw [ty0]
      cases o with
      | lst ds =>
        obtain ⟨vs, e, _⟩ := ro
        exact ⟨_, .base (.lst e), fun ty h => kit_b O (some .list) ty (fun c e => nomatch e) h⟩
      | fro ds =>
        obtain ⟨vs, e, _⟩ := ro
        refine ⟨.type "list", ?_, fun ty h => kit_b O (some .list) ty (fun c e => nomatch e) h⟩
        rcases e with ⟨o, e⟩ | ⟨o, its, _, hk, hc, _⟩
        · exact .base (.frz e)
        · exact .kList (by rw [O.K]; exact hk) hc
      | dic kvs =>
        refine ⟨.type "dict", ?_, fun ty h => kit_b O (some .dict) ty (fun c e => nomatch e) h⟩
        obtain ⟨ps, e, _⟩ := ro
        exact .base (.dK e)
      | ins c fs =>
        obtain ⟨dx, vs, e, _, okc⟩ := ro
        rw [O.top.okc] at okc
        obtain ⟨y, hy⟩ := Option.isSome_iff_exists.mp okc
        have ca := (O.top.cl c y hy).2
        rw [← O.K] at ca
        refine ⟨.ref (g.ca c), .base (.ins e ca.cl ca.ha ca.hn ca.htk ca.hm), fun ty h => ?_⟩
        rw [O.K]
        exact O.top.kit c y ty hy h
theorem kits {t : Value} {a : Option Ty} (h : ∀ ty, okTy n ty → PySem.W.kitOne X.K t (tyV1 g ty) = some (isTy T a ty)) : ∀ ts : List Ty, (∀ t ∈ ts, okTy n t) → PySem.W.kitAny X.K t (ts.map (tyV1 g)) = some (ts.any fun ty => isTy T a ty)
  | [], _ => rfl
  | ty :: ts, k => by
    refine kitAny_cons (h ty (k ty List.mem_cons_self)) (b := isTy T a ty) (fun e => ?_) fun e => ?_
    · rw [List.any_cons, e, Bool.false_or]
      exact kits h ts fun t m => k t (List.mem_cons_of_mem _ m)
    · rw [List.any_cons, e, Bool.true_or]
theorem ckTy_ok {t : Ty} {e : Expr} (h : ckTy n S t e = true) : okTy n t ∧ noStar e = true ∧ PE X e (tC (tyVv g t)) := by
  unfold ckTy at h
  split at h
  · rename_i x p
    rw [Bool.and_eq_true, Bool.and_eq_true] at h
    obtain ⟨⟨h1, h2⟩, h3⟩ := h
    refine ⟨?_, rfl, ?_⟩
    · intro c e
      subst e
      have h3 : decide (n.cl c = some x) = true := h3
      rw [of_decide_eq_true h3]
      rfl
    · cases t with
      | own c => exact pe_glob (O.gl h1) (O.top.cl c x (of_decide_eq_true h3)).1 rfl (okN_1 h2)
      | int => cases (of_decide_eq_true h3 : tyN .int = some x); exact pe_bltn (O.gl h1) (O.top.blt _ (by decide)) PyProof.Rows.boot_int rfl
      | str => cases (of_decide_eq_true h3 : tyN .str = some x); exact pe_bltn (O.gl h1) (O.top.blt _ (by decide)) PyProof.Rows.boot_str rfl
      | bool => cases (of_decide_eq_true h3 : tyN .bool = some x); exact pe_bltn (O.gl h1) (O.top.blt _ (by decide)) PyProof.Rows.boot_bool rfl
      | tuple => cases (of_decide_eq_true h3 : tyN .tuple = some x); exact pe_bltn (O.gl h1) (O.top.blt _ (by decide)) PyProof.Rows.boot_tuple rfl
      | list => cases (of_decide_eq_true h3 : tyN .list = some x); exact pe_bltn (O.gl h1) (O.top.blt _ (by decide)) PyProof.Rows.boot_list rfl
      | dict => cases (of_decide_eq_true h3 : tyN .dict = some x); exact pe_bltn (O.gl h1) (O.top.blt _ (by decide)) PyProof.Rows.boot_dict rfl
  · cases h
theorem ckTys_ok : ∀ {ts : List Ty} {cs : List Expr}, cs.length = ts.length → ((ts.zip cs).all fun p => ckTy n S p.1 p.2) = true → (∀ t ∈ ts, okTy n t) ∧ noStars cs = true ∧ PA X cs (fun σ H Q => Q (ts.map (tyVv g)) H)
  | [], [], _, _ => ⟨(fun t m => absurd m (by simp)), rfl, PA.weak pa_nil fun _ _ _ h => h⟩
  | t :: ts, c :: cs, l, h => by
    rw [List.zip_cons_cons, List.all_cons, Bool.and_eq_true] at h
    obtain ⟨o1, s1, p1⟩ := ckTy_ok O h.1
    obtain ⟨o2, s2, p2⟩ := ckTys_ok (Nat.succ.inj l) h.2
    refine ⟨fun x m => ?_, ?_, PA.weak (pa_cons p1 p2 (star_cons s1)) fun _ _ _ h => h⟩
    · cases m with
      | head => exact o1
      | tail _ m => exact o2 x m
    · show (noStar c && noStars cs) = true
      rw [s1, s2]
      rfl
theorem boot_isi : bootBuiltins "isinstance" = some (.builtin "isinstance") := by decide +kernel
theorem s_isi1 {a : E} {t : Ty} {ea ec : Expr} {x : Str} {p pos : Pos} (h1 : x = "isinstance") (h2 : gloB S x = true) (h3 : noStar ea = true) (h4 : ckTy n S t ec = true) (ha : PE X ea (rE g T C hx W a)) :
    PE X (.Call (.Name x p) [ea, ec] [] pos) (rE g T C hx W (.isi a [t])) := by
  subst h1
  obtain ⟨o1, s1, p1⟩ := ckTy_ok O h4
  refine PE.weak (pe_callB call_isi (O.gl h2) (O.top.blt _ (by decide)) (boot_isi O) (pa_cons ha (pa_cons p1 pa_nil (star_cons s1)) (star_cons h3)) (by decide) (by decide) (star_cons h3) (star_any (show (noStar ec && true) = true by rw [s1]; rfl))) fun σ H Q ⟨m, env, st, SR_, ER_, h⟩ => ?_
  refine go_E O SR_ ER_ h fun y s1 m1 H1 v1 e1 S1 E1 r1 z => ?_
  obtain ⟨tv, ty, k⟩ := ty_val O S1 r1 z.1
  refine ⟨v1, _, tv, _, _, rfl, clsV_of g t, ty, k t o1, ?_⟩
  have z2 := z.2
  rw [List.any_cons, List.any_nil, Bool.or_false] at z2
  exact Wn.bl S1 (Wn.ext e1 z2)
theorem s_isiT {a : E} {ts : List Ty} {ea : Expr} {cs : List Expr} {k : Nat} {x : Str} {p pos p2 : Pos} (h1 : x = "isinstance") (h2 : gloB S x = true) (h3 : noStar ea = true) (h4 : cs.length = ts.length) (h5 : ((ts.zip cs).all fun p => ckTy n S p.1 p.2) = true) (h6 : ts.length ≤ 1000)
    (ha : PE X ea (rE g T C hx W a)) : PE X (.Call (.Name x p) [ea, .Tuple cs k p2] [] pos) (rE g T C hx W (.isi a ts)) := by
  subst h1
  obtain ⟨o1, s1, p1⟩ := ckTys_ok O h4 h5
  refine PE.weak (pe_callB call_isiT (O.gl h2) (O.top.blt _ (by decide)) (boot_isi O) (pa_cons ha (pa_cons (pe_tup p1) pa_nil (star_cons rfl)) (star_cons h3)) (by decide) (by decide) (star_cons h3) (star_any rfl)) fun σ H Q ⟨m, env, st, SR_, ER_, h⟩ => ?_
  refine go_E O SR_ ER_ h fun y s1 m1 H1 v1 e1 S1 E1 r1 z => ⟨?_, fun p np => ?_⟩
  · rw [List.length_map]
    exact Nat.le_trans h6 (by decide)
  · have e2 : Ext m1 m1 H1 (upd H1 p (.tup (ts.map (tyVv g)))) := ext_new np fun _ _ z => z
    have S2 := S1.fresh (u := .tup (ts.map (tyVv g))) np
    obtain ⟨tv, ty, k⟩ := ty_val O S2 (RD.mono e2 _ _ r1) z.1
    exact ⟨v1, p, ts.map (tyVv g), tv, ts.map (tyV1 g), _, rfl, upd_same, clsVs_of g ts, ty, kits O k ts o1, Wn.bl S2 (Wn.ext (e1.trans e2) z.2)⟩
def JR (g : G) (m : Mp) (H : Hp) (j : J) (J0 : It) : Prop := ∀ (m' : Mp) (H' : Hp) (st' : Store) (i : Nat), Ext m m' H H' → SR g m' H' st' →
  (j.at i st' = some none → J0.stop i H') ∧ ∀ d, j.at i st' = some (some d) → J0.go i H' ∧ ∀ x H2, J0.yld i H' x H2 → Ext m' m' H' H2 ∧ SR g m' H2 st' ∧ RD g m' H2 d x
omit O in
theorem JR.ext {m m' : Mp} {H H' : Hp} {j : J} {J0 : It} (e : Ext m m' H H') (h : JR g m H j J0) : JR g m' H' j J0 := fun m2 H2 st i e2 S2 => h m2 H2 st i (e.trans e2) S2
def rI (g : G) (T : Tab) (C : Calls) (hx : Option Exc) (W : WX) (it : E) : TI := fun σ H R => ∃ (m : Mp) (env : Env) (st : Store), SR g m H st ∧ ER g m H σ env ∧
  wpI T C hx it env st (fun j s => ∀ m' H' J0, Ext m m' H H' → SR g m' H' s → JR g m' H' j J0 → R J0 H') (Wx g m H (WE W σ))
theorem PI.weak {tg it : Expr} {t t' : TI} (h : PI X tg it t) (w : ∀ σ H R, t' σ H R → t σ H R) : PI X tg it t' := ⟨fun pins s σ H R I q => h.run pins s σ H R I (w σ H R q)⟩
omit O in
theorem jr_range {m : Mp} {H : Hp} (lo : Int) (k : Nat) : JR g m H (.seq (rngD lo k)) (Itr lo k) := by
  intro m' H' st i e S1
  have at_ : (J.seq (rngD lo k)).at i st = some ((rngD lo k)[i]?) := rfl
  rw [at_]
  unfold rngD
  rw [List.getElem?_map]
  refine ⟨fun h => ?_, fun d h => ?_⟩
  · by_cases l : i < k
    · rw [List.getElem?_range l] at h
      cases h
    · exact Nat.le_of_not_lt l
  · by_cases l : i < k
    · rw [List.getElem?_range l] at h
      cases h
      exact ⟨l, fun x H2 ⟨a, b⟩ => by subst a b; exact ⟨.refl _ _, S1, rfl⟩⟩
    · rw [List.getElem?_eq_none (by simpa using Nat.le_of_not_lt l)] at h
      cases h
theorem i_rng1 {tg ea : Expr} {a : E} {x : Str} {p pos : Pos} (h1 : x = "range") (h2 : gloB S x = true) (h3 : noStar ea = true) (ha : PE X ea (rE g T C hx W a)) : PI X tg (.Call (.Name x p) [ea] [] pos) (rI g T C hx W (.rng1 a)) := by
  subst h1
  refine PI.weak O (pi_range1 (O.gl h2) (O.top.blt _ (by decide)) (a_cons O h3 ha (a_nil O)) (star_cons h3)) fun σ H R ⟨m, env, st, SR_, ER_, h⟩ => ?_
  refine go_A O SR_ ER_ (R := fun ds s1 => ∃ x, ds = [x] ∧ match x with
    | .int n => -(2 ^ 62) ≤ n ∧ n < 2 ^ 62 ∧ ∀ m' H' J0, Ext m m' H H' → SR g m' H' s1 → JR g m' H' (.seq (rngD 0 n.toNat)) J0 → R J0 H'
    | _ => False) (wpE_mono O.MC a env st _ _ _ _ (fun d s z => ⟨d, rfl, z⟩) (fun _ _ z => z) h) fun ds s1 m1 H1 vs e1 S1 E1 r1 ⟨x, ex, z⟩ => ?_
  subst ex
  obtain ⟨v, rfl, rv⟩ := r1.un1
  split at z
  · cases rd_int rv
    exact ⟨_, rfl, z.1, z.2.1, z.2.2 m1 H1 _ e1 S1 (jr_range 0 _)⟩
  · exact z.elim
theorem i_rng2 {tg ea eb : Expr} {a b : E} {x : Str} {p pos : Pos} (h1 : x = "range") (h2 : gloB S x = true) (h3 : noStar ea = true) (h4 : noStar eb = true) (ha : PE X ea (rE g T C hx W a)) (hb : PE X eb (rE g T C hx W b)) :
    PI X tg (.Call (.Name x p) [ea, eb] [] pos) (rI g T C hx W (.rng2 a b)) := by
  subst h1
  refine PI.weak O (pi_range2 (O.gl h2) (O.top.blt _ (by decide)) (a_cons O h3 ha (a_cons O h4 hb (a_nil O))) (by rw [star_cons h3, star_cons h4]; rfl) (star_cons h4)) fun σ H R ⟨m, env, st, SR_, ER_, h⟩ => ?_
  refine go_A O SR_ ER_ (R := fun ds s1 => ∃ x y, ds = [x, y] ∧ match x, y with
    | .int m0, .int n => (-(2 ^ 62) ≤ m0 ∧ m0 < 2 ^ 62 ∧ -(2 ^ 62) ≤ n ∧ n < 2 ^ 62) ∧ ∀ m' H' J0, Ext m m' H H' → SR g m' H' s1 → JR g m' H' (.seq (rngD m0 (n - m0).toNat)) J0 → R J0 H'
    | _, _ => False) (wpE_mono O.MC a env st _ _ _ _ (fun d s z => wpE_mono O.MC b env s _ _ _ _ (fun d2 s z => ⟨d, d2, rfl, z⟩) (fun _ _ z => z) z) (fun _ _ z => z) h) fun ds s1 m1 H1 vs e1 S1 E1 r1 ⟨x, y, ex, z⟩ => ?_
  subst ex
  obtain ⟨v, w, rfl, rv, rw'⟩ := r1.two
  split at z
  · cases rd_int rv
    cases rd_int rw'
    exact ⟨_, _, rfl, z.1, z.2 m1 H1 _ e1 S1 (jr_range _ _)⟩
  · exact z.elim
def iSeq (K : PySem.W.Frag) (te : TE) : TI := fun σ H R => te σ H fun x H1 => (∃ a xs, x = .ref a ∧ SqL K H1 a xs ∧ R (Itl K a) H1) ∨ (∃ a xs, x = .ref a ∧ SqT K H1 a xs ∧ R (Itt K a) H1) ∨ ∃ z, x = .str z ∧ R (Its z) H1
theorem pi_seq {tg l : Expr} {tl : TE} (hl : PE X l tl) : PI X tg l (iSeq X.K tl) := by
  refine ⟨fun pins s σ H R I h => ?_⟩
  refine thn (hl.run pins s σ H _ I h) fun v s1 ⟨x, H1, I1, r1, q1⟩ => ?_
  rcases q1 with ⟨a, xs, rfl, hq, q⟩ | ⟨a, xs, rfl, hq, q⟩ | ⟨z, rfl, q⟩
  · cases r1
    obtain ⟨its, rv, p, hz⟩ := I1.list hq
    exact wpAny_pyIter_list p.isList (pi_one (tk := s1.toks) I1 _ (turn_list a _) ⟨_, Heap.get?_push_size _ rfl, rfl, rfl⟩ q)
  · cases r1
    obtain ⟨its, rv, p, hz⟩ := I1.tuple hq
    exact wpAny_pyIter_tuple (show s1.heap.IsTuple a its.toArray from p) (pi_one (tk := s1.toks) I1 _ (turn_tuple a _) ⟨_, Heap.get?_push_size _ rfl, rfl, rfl⟩ q)
  · obtain ⟨t, rfl⟩ := r1
    cases ha : z.cps.all (· < 128)
    · exact wpAny_pyIter_wide ha (pi_one (tk := s1.toks) I1 _ (turn_str _ z t "str_iterator" (.inr rfl)) ⟨_, Heap.get?_push_size _ rfl, rfl, rfl⟩ q)
    · exact wpAny_pyIter_ascii ha (pi_one (tk := s1.toks) I1 _ (turn_str _ z t "str_ascii_iterator" (.inl rfl)) ⟨_, Heap.get?_push_size _ rfl, rfl, rfl⟩ q)
omit O in
theorem jr_lst {m : Mp} {H : Hp} {h : Nat} {a : Addr} (ea : m h = some a) : JR g m H (.lst h) (Itl g.K a) := by
  intro m' H' st i e S1
  have ea := e.mm _ _ ea
  have key : ∀ ds : List D, st[h]? = some (.lst ds) ∨ st[h]? = some (.fro ds) → (some ds[i]? = some none → (Itl g.K a).stop i H') ∧ ∀ d, some ds[i]? = some (some d) → (Itl g.K a).go i H' ∧ ∀ x H2, (Itl g.K a).yld i H' x H2 → Ext m' m' H' H2 ∧ SR g m' H2 st ∧ RD g m' H2 d x := fun ds e0 => by
    obtain ⟨vs, hq, rd⟩ := S1.sqL ea e0
    refine ⟨fun q => ⟨vs, hq, ?_⟩, fun d q => ?_⟩
    · rw [rd.length]
      exact List.getElem?_eq_none_iff.mp (Option.some.inj q)
    · obtain ⟨v, hv, rv⟩ := rd.get (Option.some.inj q)
      refine ⟨⟨vs, v, hq, hv⟩, fun x H2 ⟨e1, k⟩ => ?_⟩
      subst e1
      have q := k vs hq
      rw [hv] at q
      cases q
      exact ⟨.refl _ _, S1, rv⟩
  unfold J.at
  dsimp only
  split
  · exact key _ (.inl (by assumption))
  · exact key _ (.inr (by assumption))
  · exact ⟨(fun q => nomatch q), (fun d q => nomatch q)⟩
omit O in
theorem jr_tup {m : Mp} {H : Hp} {a : Addr} {ds : List D} {vs : List V} (hq : SqT g.K H a vs) (rd : RDs g m H ds vs) : JR g m H (.seq ds) (Itt g.K a) := by
  intro m' H' st i e S1
  have hq := SqT.ext e hq
  have rd := RDs.mono e _ _ rd
  refine ⟨fun q => ⟨vs, hq, ?_⟩, fun d q => ?_⟩
  · rw [rd.length]
    exact List.getElem?_eq_none_iff.mp (Option.some.inj q)
  · obtain ⟨v, hv, rv⟩ := rd.get (Option.some.inj q)
    refine ⟨⟨vs, v, hq, hv⟩, fun x H2 ⟨e1, k⟩ => ?_⟩
    subst e1
    have q := k vs hq
    rw [hv] at q
    cases q
    exact ⟨.refl _ _, S1, rv⟩
omit O in
theorem jr_str {m : Mp} {H : Hp} {z : List Nat} : JR g m H (.seq (z.map fun c => .str [c])) (Its ⟨z.toArray⟩) := by
  intro m' H' st i e S1
  have sz : (⟨z.toArray⟩ : Str).cps.size = z.length := by simp
  have at_ : (J.seq (z.map fun c => D.str [c])).at i st = some ((z.map fun c => D.str [c])[i]?) := rfl
  rw [at_, List.getElem?_map]
  refine ⟨fun q => ?_, fun d q => ?_⟩
  · show (⟨z.toArray⟩ : Str).cps.size ≤ i
    rw [sz]
    by_cases l : i < z.length
    · rw [List.getElem?_eq_getElem l] at q
      cases q
    · exact Nat.le_of_not_lt l
  · by_cases l : i < z.length
    · rw [List.getElem?_eq_getElem l] at q
      cases q
      refine ⟨show i < (⟨z.toArray⟩ : Str).cps.size by rw [sz]; exact l, fun x H2 ⟨e1, c, hc, k⟩ => ?_⟩
      subst e1 k
      have hc : z.toArray[i]? = some c := hc
      rw [List.getElem?_toArray, List.getElem?_eq_getElem l] at hc
      cases hc
      exact ⟨.refl _ _, S1, rfl⟩
    · rw [List.getElem?_eq_none (Nat.le_of_not_lt l)] at q
      cases q
theorem i_sq {tg ea : Expr} {a : E} (ha : PE X ea (rE g T C hx W a)) : PI X tg ea (rI g T C hx W (.sq a)) := by
  refine PI.weak O (pi_seq O ha) fun σ H R ⟨m, env, st, SR_, ER_, h⟩ => ?_
  refine go_E O SR_ ER_ h fun y s1 m1 H1 v1 e1 S1 E1 r1 z => ?_
  unfold walkQ at z
  rw [O.K]
  split at z
  · obtain ⟨a, vs, rfl, hq, rd⟩ := rd_tup r1
    exact .inr (.inl ⟨a, vs, rfl, hq, z m1 H1 _ e1 S1 (jr_tup hq rd)⟩)
  · cases rd_str r1
    exact .inr (.inr ⟨_, rfl, z m1 H1 _ e1 S1 jr_str⟩)
  · obtain ⟨a, rfl, ea⟩ := rd_ref r1
    split at z
    · rename_i e0
      obtain ⟨vs, hq, _⟩ := S1.sqL ea (.inl e0)
      exact .inl ⟨a, vs, rfl, hq, z m1 H1 _ e1 S1 (jr_lst ea)⟩
    · rename_i e0
      obtain ⟨vs, hq, _⟩ := S1.sqL ea (.inr e0)
      exact .inl ⟨a, vs, rfl, hq, z m1 H1 _ e1 S1 (jr_lst ea)⟩
    · exact z.elim
  · exact z.elim
omit O in
theorem jr_enm {m : Mp} {H : Hp} {h : Nat} {a : Addr} (ea : m h = some a) : JR g m H (.enm h) (Ite g.K a) := by
  intro m' H' st i e S1
  have ea := e.mm _ _ ea
  have key : ∀ ds : List D, st[h]? = some (.lst ds) ∨ st[h]? = some (.fro ds) → (some (ds[i]?.map fun d => D.tup [.int i, d]) = some none → (Ite g.K a).stop i H') ∧ ∀ d, some (ds[i]?.map fun d => D.tup [.int i, d]) = some (some d) → (Ite g.K a).go i H' ∧ ∀ x H2, (Ite g.K a).yld i H' x H2 → Ext m' m' H' H2 ∧ SR g m' H2 st ∧ RD g m' H2 d x := fun ds e0 => by
    obtain ⟨vs, hq, rd⟩ := S1.sqL ea e0
    refine ⟨fun q => ⟨vs, hq, ?_⟩, fun d q => ?_⟩
    · rw [rd.length]
      exact List.getElem?_eq_none_iff.mp (Option.map_eq_none_iff.mp (Option.some.inj q))
    · obtain ⟨d0, hd0, ed⟩ := Option.map_eq_some_iff.mp (Option.some.inj q)
      subst ed
      obtain ⟨v, hv, rv⟩ := rd.get hd0
      refine ⟨⟨vs, v, hq, hv⟩, fun x H2 ⟨p, y, ex, np, eH, k⟩ => ?_⟩
      subst ex eH
      have q := k vs hq
      rw [hv] at q
      cases q
      have e2 : Ext m' m' H' (upd H' p (.tup [.int (i : Nat), v])) := ext_new np fun _ _ z => z
      exact ⟨e2, S1.fresh np, p, _, rfl, .inl (.inl upd_same), .cons rfl (.one (RD.mono e2 _ _ rv))⟩
  unfold J.at
  dsimp only
  split
  · exact key _ (.inl (by assumption))
  · exact key _ (.inr (by assumption))
  · exact ⟨(fun q => nomatch q), (fun d q => nomatch q)⟩
theorem i_enm {es : List Expr} {k : Nat} {ea : Expr} {a : E} {x : Str} {p pos tp : Pos} (h1 : x = "enumerate") (h2 : gloB S x = true) (h3 : noStar ea = true) (ha : PE X ea (rE g T C hx W a)) : PI X (.Tuple es k tp) (.Call (.Name x p) [ea] [] pos) (rI g T C hx W (.enm a)) := by
  subst h1
  refine PI.weak O (pi_enum (O.gl h2) (O.top.blt _ (by decide)) (a_cons O h3 ha (a_nil O)) (star_cons h3)) fun σ H R ⟨m, env, st, SR_, ER_, h⟩ => ?_
  refine go_A O SR_ ER_ (R := fun ds s1 => ∃ x, ds = [x] ∧ enmQ s1 x fun j => ∀ m' H' J0, Ext m m' H H' → SR g m' H' s1 → JR g m' H' j J0 → R J0 H')
    (wpE_mono O.MC a env st _ _ _ _ (fun d s z => ⟨d, rfl, z⟩) (fun _ _ z => z) h) fun ds s1 m1 H1 vs e1 S1 E1 r1 ⟨x, ex, z⟩ => ?_
  subst ex
  obtain ⟨v, rfl, rv⟩ := r1.un1
  unfold enmQ at z
  rw [O.K]
  split at z
  · obtain ⟨a, rfl, ea⟩ := rd_ref rv
    split at z
    · rename_i e0
      obtain ⟨vs, hq, _⟩ := S1.sqL ea (.inl e0)
      exact ⟨a, vs, rfl, hq, z m1 H1 _ e1 S1 (jr_enm ea)⟩
    · rename_i e0
      obtain ⟨vs, hq, _⟩ := S1.sqL ea (.inr e0)
      exact ⟨a, vs, rfl, hq, z m1 H1 _ e1 S1 (jr_enm ea)⟩
    · exact z.elim
  · exact z.elim
omit O in
theorem jr_zip {m : Mp} {H : Hp} {h h' : Nat} {a b : Addr} (ea : m h = some a) (eb : m h' = some b) : JR g m H (.zip h h') (Itz g.K a b) := by
  intro m' H' st i e S1
  have ea := e.mm _ _ ea
  have eb := e.mm _ _ eb
  unfold J.at
  dsimp only
  split
  · rename_i xs ys e0 e0'
    obtain ⟨vs, hq, rd⟩ := S1.sqL ea (.inl e0)
    obtain ⟨ws, hq', rd'⟩ := S1.sqL eb (.inl e0')
    split
    · rename_i x y ex ey
      refine ⟨(fun q => nomatch q), fun d q => ?_⟩
      cases q
      obtain ⟨v, hv, rv⟩ := rd.get ex
      obtain ⟨w, hw, rw'⟩ := rd'.get ey
      refine ⟨⟨vs, ws, v, w, hq, hq', hv, hw⟩, fun u H2 ⟨p, y1, y2, eu, np, eH, k, k'⟩ => ?_⟩
      subst eu eH
      have q := k vs hq
      rw [hv] at q
      cases q
      have q := k' ws hq'
      rw [hw] at q
      cases q
      have e2 : Ext m' m' H' (upd H' p (.tup [v, w])) := ext_new np fun _ _ z => z
      exact ⟨e2, S1.fresh np, p, _, rfl, .inl (.inl upd_same), .cons (RD.mono e2 _ _ rv) (.one (RD.mono e2 _ _ rw'))⟩
    · rename_i no
      refine ⟨fun _ => ⟨vs, ws, hq, hq', ?_⟩, (fun d q => nomatch q)⟩
      rw [rd.length, rd'.length]
      by_cases l : i < xs.length
      · by_cases l' : i < ys.length
        · exact (no _ _ (List.getElem?_eq_getElem l) (List.getElem?_eq_getElem l')).elim
        · exact .inr (Nat.le_of_not_lt l')
      · exact .inl (Nat.le_of_not_lt l)
  · exact ⟨(fun q => nomatch q), (fun d q => nomatch q)⟩
omit O in
theorem jr_zipT {m : Mp} {H : Hp} {a b : Addr} {xs ys : List D} {vs ws : List V} (hq : SqT g.K H a vs) (rd : RDs g m H xs vs) (hq' : SqT g.K H b ws) (rd' : RDs g m H ys ws) : JR g m H (.seq (List.zipWith (fun u v => .tup [u, v]) xs ys)) (ItzT g.K a b) := by
  intro m' H' st i e S1
  have hq := SqT.ext e hq
  have rd := RDs.mono e _ _ rd
  have hq' := SqT.ext e hq'
  have rd' := RDs.mono e _ _ rd'
  have at_ : (J.seq (List.zipWith (fun u v => D.tup [u, v]) xs ys)).at i st = some ((List.zipWith (fun u v => D.tup [u, v]) xs ys)[i]?) := rfl
  rw [at_, List.getElem?_zipWith]
  by_cases l : i < xs.length
  · by_cases l' : i < ys.length
    · rw [List.getElem?_eq_getElem l, List.getElem?_eq_getElem l']
      refine ⟨(fun q => nomatch q), fun d q => ?_⟩
      cases q
      obtain ⟨v, hv, rv⟩ := rd.get (List.getElem?_eq_getElem l)
      obtain ⟨w, hw, rw'⟩ := rd'.get (List.getElem?_eq_getElem l')
      refine ⟨⟨vs, ws, v, w, hq, hq', hv, hw⟩, fun u H2 ⟨p, y1, y2, eu, np, eH, k, k'⟩ => ?_⟩
      subst eu eH
      have q := k vs hq
      rw [hv] at q
      cases q
      have q := k' ws hq'
      rw [hw] at q
      cases q
      have e2 : Ext m' m' H' (upd H' p (.tup [v, w])) := ext_new np fun _ _ z => z
      exact ⟨e2, S1.fresh np, p, _, rfl, .inl (.inl upd_same), .cons (RD.mono e2 _ _ rv) (.one (RD.mono e2 _ _ rw'))⟩
    · rw [List.getElem?_eq_none (Nat.le_of_not_lt l')]
      refine ⟨fun _ => ⟨vs, ws, hq, hq', .inr ?_⟩, fun d q => ?_⟩
      · rw [rd'.length]; exact Nat.le_of_not_lt l'
      · rw [List.getElem?_eq_getElem l] at q; cases q
  · rw [List.getElem?_eq_none (Nat.le_of_not_lt l)]
    refine ⟨fun _ => ⟨vs, ws, hq, hq', .inl ?_⟩, (fun d q => nomatch q)⟩
    rw [rd.length]; exact Nat.le_of_not_lt l
omit O in
theorem jr_zipX {m : Mp} {H : Hp} {b : Addr} {z : List Nat} {ys : List D} {ws : List V} (hq' : SqT g.K H b ws) (rd' : RDs g m H ys ws) : JR g m H (.seq (List.zipWith (fun u v => .tup [u, v]) (z.map fun c => .str [c]) ys)) (ItxT g.K ⟨z.toArray⟩ b ys.length) := by
  intro m' H' st i e S1
  have hq' := SqT.ext e hq'
  have rd' := RDs.mono e _ _ rd'
  have at_ : (J.seq (List.zipWith (fun u v => D.tup [u, v]) (z.map fun c => .str [c]) ys)).at i st = some ((List.zipWith (fun u v => D.tup [u, v]) (z.map fun c => .str [c]) ys)[i]?) := rfl
  have cz : ∀ j : Nat, (⟨z.toArray⟩ : Str).cps[j]? = z[j]? := fun j => by simp
  rw [at_, List.getElem?_zipWith, List.getElem?_map]
  by_cases l : i < z.length
  · by_cases l' : i < ys.length
    · rw [List.getElem?_eq_getElem l, List.getElem?_eq_getElem l']
      refine ⟨(fun q => nomatch q), fun d q => ?_⟩
      cases q
      obtain ⟨w, hw, rw'⟩ := rd'.get (List.getElem?_eq_getElem l')
      refine ⟨⟨ws, w, z[i], hq', rd'.length, by rw [cz, List.getElem?_eq_getElem l], hw⟩, fun u H2 ⟨p, c, y2, eu, np, eH, k, k'⟩ => ?_⟩
      subst eu eH
      rw [cz, List.getElem?_eq_getElem l] at k
      cases k
      have q := k' ws hq'
      rw [hw] at q
      cases q
      have e2 : Ext m' m' H' (upd H' p (.tup [.str ⟨#[z[i]]⟩, w])) := ext_new np fun _ _ z => z
      exact ⟨e2, S1.fresh np, p, _, rfl, .inl (.inl upd_same), .cons rfl (.one (RD.mono e2 _ _ rw'))⟩
    · rw [List.getElem?_eq_none (Nat.le_of_not_lt l'), List.getElem?_eq_getElem l]
      exact ⟨fun _ => ⟨ws, hq', rd'.length, .inr (Nat.le_of_not_lt l')⟩, (fun d q => nomatch q)⟩
  · rw [List.getElem?_eq_none (Nat.le_of_not_lt l)]
    exact ⟨fun _ => ⟨ws, hq', rd'.length, .inl (by simpa using Nat.le_of_not_lt l)⟩, (fun d q => nomatch q)⟩
theorem i_zip {es : List Expr} {k : Nat} {ea eb : Expr} {a b : E} {x : Str} {p pos tp : Pos} (h1 : x = "zip") (h2 : gloB S x = true) (h3 : noStar ea = true) (h4 : noStar eb = true) (ha : PE X ea (rE g T C hx W a)) (hb : PE X eb (rE g T C hx W b)) :
    PI X (.Tuple es k tp) (.Call (.Name x p) [ea, eb] [] pos) (rI g T C hx W (.zip a b)) := by
  subst h1
  refine PI.weak O (pi_zipX (O.gl h2) (O.top.blt _ (by decide)) (a_cons O h3 ha (a_cons O h4 hb (a_nil O))) (star_cons h3) (star_any (show (noStar eb && true) = true by rw [h4]; rfl))) fun σ H R ⟨m, env, st, SR_, ER_, h⟩ => ?_
  refine go_A O SR_ ER_ (R := fun ds s1 => ∃ x y, ds = [x, y] ∧ zipQ s1 x y fun j => ∀ m' H' J0, Ext m m' H H' → SR g m' H' s1 → JR g m' H' j J0 → R J0 H')
    (wpE_mono O.MC a env st _ _ _ _ (fun d s z => wpE_mono O.MC b env s _ _ _ _ (fun d2 s z => ⟨d, d2, rfl, z⟩) (fun _ _ z => z) z) (fun _ _ z => z) h) fun ds s1 m1 H1 vs e1 S1 E1 r1 ⟨x, y, ex, z⟩ => ?_
  subst ex
  obtain ⟨v, w, rfl, rv, rw'⟩ := r1.two
  unfold zipQ at z
  rw [O.K]
  split at z
  · obtain ⟨a, vs, rfl, hq, rd⟩ := rd_tup rv
    obtain ⟨b, ws, rfl, hq', rd'⟩ := rd_tup rw'
    exact .inl ⟨a, b, vs, ws, rfl, .inr ⟨hq, hq', z m1 H1 _ e1 S1 (jr_zipT hq rd hq' rd')⟩⟩
  · cases rd_str rv
    obtain ⟨b, ws, rfl, hq', rd'⟩ := rd_tup rw'
    refine .inr ⟨_, b, ws, rfl, hq', z m1 H1 _ e1 S1 ?_⟩
    rw [rd'.length]
    exact jr_zipX hq' rd'
  · obtain ⟨a, rfl, ea⟩ := rd_ref rv
    obtain ⟨b, rfl, eb⟩ := rd_ref rw'
    split at z
    · rename_i e0 e0'
      obtain ⟨vs, hq, _⟩ := S1.sqL ea (.inl e0)
      obtain ⟨ws, hq', _⟩ := S1.sqL eb (.inl e0')
      exact .inl ⟨a, b, vs, ws, rfl, .inl ⟨hq, hq', z m1 H1 _ e1 S1 (jr_zip ea eb)⟩⟩
    · exact z.elim
  · exact z.elim
omit O in
theorem wipe_set {σ : L2.St} {i : Nat} {x : Option V} : ∀ {vs : List Nat}, i ∈ vs → wipe (σ.set i x) vs = wipe σ vs
  | v :: vs, h => by
    by_cases e : i ∈ vs
    · show (wipe (σ.set i x) vs).set v none = (wipe σ vs).set v none
      rw [wipe_set e]
    · have z : i = v := by
        cases h with
        | head => rfl
        | tail _ m => exact absurd m e
      subst z
      show (wipe (σ.set i x) vs).set i none = (wipe σ vs).set i none
      have out : ∀ {ws : List Nat}, i ∉ ws → wipe (σ.set i x) ws = (wipe σ ws).set i x := by
        intro ws
        induction ws with
        | nil => intro _; rfl
        | cons w ws ih =>
          intro hw
          have h1 : w ≠ i := fun e => hw (by rw [e]; exact List.mem_cons_self)
          have h2 : i ∉ ws := fun m => hw (List.mem_cons_of_mem _ m)
          show (wipe (σ.set i x) ws).set w none = ((wipe σ ws).set w none).set i x
          rw [ih h2, List.set_comm _ _ (Ne.symm h1)]
      rw [out e, List.set_set]
def rG (g : G) (tg : Tg) : TG := fun v σ H Q => ∃ (m : Mp) (env env' : Env) (d : D), ER g m H σ env ∧ RD g m H d v ∧ bindT tg d env = some env' ∧ ∀ σ', ER g m H σ' env' → (∀ vs, (∀ i ∈ tgVs tg, i ∈ vs) → wipe σ' vs = wipe σ vs) → Q σ' H
omit O in
theorem PG.weak {tg : Expr} {t t' : TG} (h : PG X tg t) (w : ∀ v σ H Q, t' v σ H Q → t v σ H Q) : PG X tg t' := ⟨fun pins s σ H v u Q I r q => h.run pins s σ H v u Q I r (w v σ H Q q)⟩
def stoB (X : Cx) (x : Str) : Prop := Loc X.env.scope x ∧ (X.fn x = true ∨ X.env.scope.names.lookup x = some .local)
omit O in
theorem g_name {i : Nat} {x : Str} {p : Pos} (nd : X.N.Nodup) (h1 : X.N[i]? = some x) (h2 : stoB X x) : PG X (.Name x p) (rG g (.nm i)) := by
  refine PG.weak (pg_name nd h1 h2.1 h2.2) fun v σ H Q ⟨m, env, env', d, E1, r, b, k⟩ => ?_
  cases b
  exact k _ (E1.set i r) fun vs hv => wipe_set (hv i (by simp [tgVs]))
def rGs (is : List Nat) : TGs := fun vs σ H Q => vs.length = is.length ∧ Q ((is.zip vs).foldl (fun s p => s.set p.1 (some p.2)) σ) H
omit O in
theorem gs_names (nd : X.N.Nodup) : ∀ {is : List Nat} {es : List Expr}, es.length = is.length → (∀ p ∈ is.zip es, ∃ x ps, p.2 = .Name x ps ∧ X.N[p.1]? = some x ∧ stoB X x) → PGs X es (rGs is) ∧ (assignEach es X.env).length = es.length ∧ (assignEach es X.env).findIdx? (·.1) = none
  | [], [], _, _ => ⟨⟨fun pins s σ H vs us Q I r h => pgs_nil.run pins s σ H vs us Q I r ⟨List.eq_nil_of_length_eq_zero h.1, by
      have e := List.eq_nil_of_length_eq_zero h.1
      subst e
      exact h.2⟩⟩, rfl, rfl⟩
  | i :: is, e :: es, l, h => by
    obtain ⟨x, ps, e1, h1, h2⟩ := h (i, e) (by simp)
    dsimp only at e1 h1
    subst e1
    obtain ⟨k1, k2, k3⟩ := gs_names nd (Nat.succ.inj l) fun p hp => h p (by rw [List.zip_cons_cons]; exact List.mem_cons_of_mem _ hp)
    have ae : assignEach (.Name x ps :: es) X.env = (false, assign (.Name x ps) X.env) :: assignEach es X.env := rfl
    refine ⟨⟨fun pins s σ H vs us Q I r q => (pgs_cons (pg_name (pos := ps) nd h1 h2.1 h2.2) k1 (by rw [ae]; rfl)).run pins s σ H vs us Q I r ?_⟩, by rw [ae, List.length_cons, List.length_cons, k2], by
      rw [ae, List.findIdx?_cons]
      simp [k3]⟩
    obtain ⟨q1, q2⟩ := q
    cases vs with
    | nil => cases q1
    | cons v vs => exact ⟨v, vs, rfl, Nat.succ.inj q1, q2⟩
omit O in
theorem er_fold {m : Mp} {H : Hp} : ∀ {is : List Nat} {ds : List D} {vs : List V} {σ : L2.St} {env : Env}, ER g m H σ env → RDs g m H ds vs → ER g m H ((is.zip vs).foldl (fun s p => s.set p.1 (some p.2)) σ) ((is.zip ds).foldl (fun e p => e.set p.1 (some p.2)) env)
  | [], _, _, _, _, h, _ => by simpa using h
  | i :: is, [], vs, _, _, h, r => by
    rw [show vs = [] from r]
    simpa using h
  | i :: is, d :: ds, vs, σ, env, h, r => by
    obtain ⟨v, r', rfl, h2, h3⟩ := r
    rw [List.zip_cons_cons, List.zip_cons_cons, List.foldl_cons, List.foldl_cons]
    exact er_fold (h.set i h2) h3
omit O in
theorem wipe_fold {ws : List Nat} : ∀ {is : List Nat} {vs : List V} {σ : L2.St}, (∀ i ∈ is, i ∈ ws) → wipe ((is.zip vs).foldl (fun s p => s.set p.1 (some p.2)) σ) ws = wipe σ ws
  | [], _, _, _ => by simp
  | i :: is, [], _, _ => by simp
  | i :: is, v :: vs, σ, h => by
    rw [List.zip_cons_cons, List.foldl_cons, wipe_fold fun j hj => h j (List.mem_cons_of_mem _ hj), wipe_set (h i List.mem_cons_self)]
theorem g_tup {is : List Nat} {es : List Expr} {k : Nat} {p : Pos} (hc : X.calm = true) (h1 : es.length = is.length) (h2 : ∀ p ∈ is.zip es, ∃ x ps, p.2 = .Name x ps ∧ X.N[p.1]? = some x ∧ stoB X x) : PG X (.Tuple es k p) (rG g (.tp is)) := by
  obtain ⟨k1, k2, k3⟩ := gs_names O.nd h1 h2
  refine PG.weak (pg_tup hc k1 k2 k3) fun v σ H Q ⟨m, env, env', d, E1, r, b, kk⟩ => ?_
  cases d with
  | tup ds =>
    obtain ⟨a, vs, rfl, hq, rd⟩ := rd_tup r
    unfold bindT at b
    dsimp only at b
    split at b
    · rename_i e
      cases b
      rw [O.K]
      exact ⟨a, vs, rfl, hq, by rw [rd.length, e, h1], by rw [rd.length, e], kk _ (er_fold E1 rd) fun ws hw => wipe_fold hw⟩
    · cases b
  | _ => cases b
theorem g_any {raw : Option Scope} {tg : Tg} {ex : Expr} (hc : X.calm = true) (st : ∀ x, stB S raw x = true → stoB X x) (h : ckTg S raw tg ex = true) : PG X ex (rG g tg) := by
  unfold ckTg at h
  split at h
  · rw [Bool.and_eq_true] at h
    refine g_name O.nd ?_ (st _ h.2)
    rw [O.N]
    exact of_decide_eq_true h.1
  · rw [Bool.and_eq_true] at h
    refine g_tup O hc (of_decide_eq_true h.1) fun p hp => ?_
    have q := List.all_eq_true.mp h.2 p hp
    split at q
    · rename_i x ps e
      rw [Bool.and_eq_true] at q
      refine ⟨x, ps, e, ?_, st _ q.2⟩
      rw [O.N]
      exact of_decide_eq_true q.1
    · cases q
  · cases h
theorem blk_ok {sc : Scope} {cl : List (Str × Addr)} {A0 : Addr} {s : Shared} {H : Hp} {fp : List Addr} : CxOk g T n C L hx (fun _ _ _ _ => False) (blkS S sc) (X.blk s H sc (compEnvC sc cl A0 X.env) fp) where
  K := O.K
  N := O.N
  nd := O.nd
  sc := by
    show relS sc X.env.scope = relS sc S.sc
    rw [O.sc]
  F := O.F
  MC := O.MC
  tk := fun u s' ⟨a, B, sI, pins, σ, H, cls, d, e, I, nb, up, sky, na, os, ag, w⟩ => w.elim
  hu := O.hu
  calm := O.calm
  room := O.room
  top := O.top
  cal := O.cal
  hL := O.hL
  exi := O.exi
omit O in
theorem set_wipe {σ : L2.St} {v : Nat} : ∀ {ws : List Nat}, v ∈ ws → (wipe σ ws).set v none = wipe σ ws
  | w :: ws, h => by
    show ((wipe σ ws).set w none).set v none = (wipe σ ws).set w none
    by_cases e : v = w
    · subst e
      rw [List.set_set]
    · have m : v ∈ ws := by
        cases h with
        | head => exact absurd rfl e
        | tail _ m => exact m
      rw [List.set_comm _ _ (Ne.symm e), set_wipe m]
omit O in
theorem wipe_wipe (σ : L2.St) (ws : List Nat) : ∀ {vs : List Nat}, (∀ v ∈ vs, v ∈ ws) → wipe (wipe σ ws) vs = wipe σ ws
  | [], _ => rfl
  | v :: vs, h => by
    show (wipe (wipe σ ws) vs).set v none = wipe σ ws
    rw [wipe_wipe σ ws fun x m => h x (List.mem_cons_of_mem _ m), set_wipe (h v List.mem_cons_self)]
def rTs (g : G) (T : Tab) (C : Calls) (hx : Option Exc) (cs : A) : TT := fun σ H Q => ∃ (m : Mp) (env : Env) (st : Store), SR g m H st ∧ ER g m H σ env ∧ wpTs T C hx cs env st fun b s => ∀ m' H', Ext m m' H H' → SR g m' H' s → Q b H'
theorem comp_wt {elt it : E} {tg : Tg} {cs : A} {own : List Nat} (h3 : ∀ i ∈ tgVs tg, i ∈ own) {σ : L2.St} {H : Hp} {Q : VK} (h : rE g T C hx W (.comp elt tg it cs own) σ H Q) :
    tLc (rI g T C hx W it) (rG g tg) (rTs g T C hx cs) (rE g T C hx (fun _ _ _ _ => False) elt) own σ H Q := by
  obtain ⟨m, env, st, SR_, ER_, _, h⟩ := h
  refine ⟨m, env, st, SR_, ER_, wpI_mono O.MC it env st _ _ _ _ (fun j s1 ⟨k, hc⟩ m1 H1 J0 e1 S1 jr D nD => ?_) (fun _ _ z => z) h⟩
  refine ⟨fun i k H2 => ∃ m2 st2, Ext m1 m2 H1 H2 ∧ SR g m2 H2 st2 ∧ m2 s1.length = some D ∧ cmpN j tg (fun e s P => wpTs T C hx cs e s P) (fun e s P => wpE T C hx elt e s P (fun _ _ => False)) s1.length (Wn g m H Q) k i (wipeE env own) st2, ⟨k, put m1 s1.length D, s1 ++ [.lst []], ext_new nD (put_mm S1), S1.alloc (o := .lst []) nD rfl ⟨[], upd_same, .nil⟩, put_same, hc⟩, ?_⟩
  rintro i k H2 ⟨m2, st2, e2, S2, mD, hc⟩
  cases k with
  | zero => exact hc.elim
  | succ k =>
    unfold cmpN at hc
    have E0 : ER g m2 H2 (wipe σ own) (wipeE env own) := (ER_.mono (e1.trans e2)).wipe own
    obtain ⟨j1, j2⟩ := jr m2 H2 st2 i e2 S2
    split at hc
    · exact hc.elim
    · rename_i ea
      exact .inl ⟨j1 ea, hc m2 H2 (.ref D) (e1.trans e2) S2 ⟨D, rfl, mD⟩⟩
    · rename_i d ea
      obtain ⟨go, jy⟩ := j2 d ea
      split at hc
      · exact hc.elim
      · rename_i env' eb
        refine .inr ⟨go, _, fun H' z => ⟨k, Nat.lt_succ_self k, z⟩, fun x H3 yl => ?_⟩
        obtain ⟨e3, S3, rx⟩ := jy x H3 yl
        refine ⟨m2, _, env', d, E0.mono e3, rx, eb, fun σ' E3 hw => ⟨(hw own h3).trans (wipe_wipe _ _ fun _ z => z), m2, env', st2, S3, E3, ?_⟩⟩
        refine wpTs_mono O.MC cs env' st2 _ _ (fun b st4 z m4 H4 e4 S4 => ?_) hc
        cases b with
        | false =>
          rw [if_neg Bool.false_ne_true] at z ⊢
          exact ⟨m4, st4, (e2.trans e3).trans e4, S4, e4.mm _ _ mD, z⟩
        | true =>
          rw [if_pos rfl] at z ⊢
          refine ⟨m4, env', st4, S4, E3.mono e4, wpE_mono O.MC elt env' st4 _ _ _ _ (fun y st5 z m5 H5 v e5 S5 rv => ?_) (fun _ _ z => z.elim) z⟩
          split at z
          · rename_i acc el
            have mD5 := e5.mm _ _ (e4.mm _ _ mD)
            obtain ⟨vs, hD, rd⟩ := S5.lst mD5 el
            refine ⟨vs, hD, by rw [rd.length]; exact z.1, m5, _, ?_, S5.write mD5 el rfl rfl ?_, mD5, z.2⟩
            · exact (((e2.trans e3).trans e4).trans e5).trans (ext_mut (by rw [hD]; trivial))
            · exact ⟨vs ++ [v], upd_same, RDs.mono (ext_mut (by rw [hD]; trivial)) _ _ (rd.app (.one rv))⟩
          · exact z.elim
theorem s_comp {elt it : E} {tg : Tg} {cs : A} {own : List Nat} {ee tg' iter : Expr} {ifs : List Expr} {sc : Scope} {pos : Pos} (hi : PI X tg' iter (rI g T C hx W it)) (h1 : noSet iter = true) (h2 : blkC S.N S.sc sc (ownP S own) = true) (h3 : ∀ i ∈ tgVs tg, i ∈ own)
    (h4 : ckTg (blkS S sc) (some sc) tg tg' = true)
    (ht : ∀ X', CxOk g T n C L hx (fun _ _ _ _ => False) (blkS S sc) X' → PTs X' ifs (rTs g T C hx cs)) (he : ∀ X', CxOk g T n C L hx (fun _ _ _ _ => False) (blkS S sc) X' → PE X' ee (rE g T C hx (fun _ _ _ _ => False) elt)) :
    PE X (.ListComp ee [⟨tg', iter, ifs, 0⟩] sc pos) (rE g T C hx W (.comp elt tg it cs own)) := by
  by_cases hn : hx = none
  · have ok : BlkOk X.N X.env.scope sc (ownP S own) := by
      rw [O.N, O.sc]
      exact blkOk_by h2
    have oe : (ownP S own).map (·.2) = own := by
      unfold ownP
      rw [List.map_map]
      exact List.map_id' own
    refine PE.weak (pe_lc (O.calm hn) O.nd hi ok (fun s H A0 cl fp => g_any (blk_ok O) (O.calm hn) (fun x hx' => ?_) h4) (fun s H A0 cl fp => ht _ (blk_ok O)) (fun s H A0 cl fp => he _ (blk_ok O)) (noSet_fold h1)) fun σ H Q h => ?_
    · unfold stB at hx'
      rw [Bool.and_eq_true] at hx'
      refine ⟨(blk_ok O).loc hx'.1, ?_⟩
      have q := hx'.2
      dsimp only at q
      split at q
      · rename_i e
        refine .inr ?_
        show (relS sc X.env.scope).names.lookup x = some .local
        rw [O.sc]
        exact e
      · split at q
        · rename_i e
          refine .inl ?_
          show (sc.names.lookup x == some .cell) = true
          rw [e]
          rfl
        · cases q
    · rw [oe]
      exact comp_wt O h3 h
  · exact ⟨fun pins s σ H Q I ⟨_, _, _, _, _, h, _⟩ => absurd h hn⟩
theorem dcomp_wt {kx vx it : E} {tg : Tg} {cs : A} {own : List Nat} (h3 : ∀ i ∈ tgVs tg, i ∈ own) {σ : L2.St} {H : Hp} {Q : VK} (h : rE g T C hx W (.dcomp kx vx tg it cs own) σ H Q) :
    L2.tDc (rI g T C hx W it) (rG g tg) (rTs g T C hx cs) (rE g T C hx (fun _ _ _ _ => False) kx) (rE g T C hx (fun _ _ _ _ => False) vx) own σ H Q := by
  obtain ⟨m, env, st, SR_, ER_, _, h⟩ := h
  refine ⟨m, env, st, SR_, ER_, wpI_mono O.MC it env st _ _ _ _ (fun j s1 ⟨k, hc⟩ m1 H1 J0 e1 S1 jr D nD => ?_) (fun _ _ z => z) h⟩
  refine ⟨fun i k H2 => ∃ m2 st2, Ext m1 m2 H1 H2 ∧ SR g m2 H2 st2 ∧ m2 s1.length = some D ∧ dcmN j tg (fun e s P => wpTs T C hx cs e s P) (fun e s P => wpE T C hx kx e s P (fun _ _ => False)) (fun e s P => wpE T C hx vx e s P (fun _ _ => False)) s1.length (Wn g m H Q) k i (wipeE env own) st2, ⟨k, put m1 s1.length D, s1 ++ [.dic []], ext_new nD (put_mm S1), S1.alloc (o := .dic []) nD rfl ⟨[], upd_same, .nil⟩, put_same, hc⟩, ?_⟩
  rintro i k H2 ⟨m2, st2, e2, S2, mD, hc⟩
  cases k with
  | zero => exact hc.elim
  | succ k =>
    unfold dcmN at hc
    have E0 : ER g m2 H2 (wipe σ own) (wipeE env own) := (ER_.mono (e1.trans e2)).wipe own
    obtain ⟨j1, j2⟩ := jr m2 H2 st2 i e2 S2
    split at hc
    · exact hc.elim
    · rename_i ea
      exact .inl ⟨j1 ea, hc m2 H2 (.ref D) (e1.trans e2) S2 ⟨D, rfl, mD⟩⟩
    · rename_i d ea
      obtain ⟨go, jy⟩ := j2 d ea
      split at hc
      · exact hc.elim
      · rename_i env' eb
        refine .inr ⟨go, _, fun H' z => ⟨k, Nat.lt_succ_self k, z⟩, fun x H3 yl => ?_⟩
        obtain ⟨e3, S3, rx⟩ := jy x H3 yl
        refine ⟨m2, _, env', d, E0.mono e3, rx, eb, fun σ' E3 hw => ⟨(hw own h3).trans (wipe_wipe _ _ fun _ z => z), m2, env', st2, S3, E3, ?_⟩⟩
        refine wpTs_mono O.MC cs env' st2 _ _ (fun b st4 z m4 H4 e4 S4 => ?_) hc
        cases b with
        | false =>
          rw [if_neg Bool.false_ne_true] at z ⊢
          exact ⟨m4, st4, (e2.trans e3).trans e4, S4, e4.mm _ _ mD, z⟩
        | true =>
          rw [if_pos rfl] at z ⊢
          refine ⟨m4, env', st4, S4, E3.mono e4, wpE_mono O.MC kx env' st4 _ _ _ _ (fun x st5 z m5 H5 v e5 S5 rx => ?_) (fun _ _ z => z.elim) z⟩
          refine ⟨m5, env', st5, S5, E3.mono (e4.trans e5), wpE_mono O.MC vx env' st5 _ _ _ _ (fun y st6 z m6 H6 w e6 S6 ry => ?_) (fun _ _ z => z.elim) z⟩
          split at z
          · rename_i kvs el
            have mD6 := e6.mm _ _ (e5.mm _ _ (e4.mm _ _ mD))
            obtain ⟨ps, hD, rk⟩ := S6.get mD6 el
            obtain ⟨kk, rfl⟩ := key_cases z.1
            refine ⟨ps, kk, key_flat (RD.mono e6 _ _ rx), hD, by rw [← Paired.length rk]; exact z.2.1, m6, _, ?_, S6.write mD6 el rfl rfl ?_, mD6, z.2.2⟩
            · exact ((((e2.trans e3).trans e4).trans e5).trans e6).trans (ext_mut (by rw [hD]; trivial))
            · exact ⟨_, upd_same, (rk_put ry rk).mono (ext_mut (by rw [hD]; trivial))⟩
          · exact z.elim
theorem blk_sto {sc : Scope} {cl : List (Str × Addr)} {A0 : Addr} {s : Shared} {H : Hp} {fp : List Addr} {x : Str} (hx' : stB (blkS S sc) (some sc) x = true) : stoB (X.blk s H sc (compEnvC sc cl A0 X.env) fp) x := by
  unfold stB at hx'
  rw [Bool.and_eq_true] at hx'
  refine ⟨(blk_ok O).loc hx'.1, ?_⟩
  have q := hx'.2
  dsimp only at q
  split at q
  · rename_i e
    refine .inr ?_
    show (relS sc X.env.scope).names.lookup x = some .local
    rw [O.sc]
    exact e
  · split at q
    · rename_i e
      refine .inl ?_
      show (sc.names.lookup x == some .cell) = true
      rw [e]
      rfl
    · cases q
theorem own_ix {own : List Nat} : (ownP S own).map (·.2) = own := by
  unfold ownP
  rw [List.map_map]
  exact List.map_id' own
theorem s_dcomp {kx vx it : E} {tg : Tg} {cs : A} {own : List Nat} {ek ev tg' iter : Expr} {ifs : List Expr} {sc : Scope} {pos : Pos} (hi : PI X tg' iter (rI g T C hx W it)) (h1 : noSet iter = true) (h2 : blkC S.N S.sc sc (ownP S own) = true) (h3 : ∀ i ∈ tgVs tg, i ∈ own)
    (h4 : ckTg (blkS S sc) (some sc) tg tg' = true)
    (ht : ∀ X', CxOk g T n C L hx (fun _ _ _ _ => False) (blkS S sc) X' → PTs X' ifs (rTs g T C hx cs)) (hk : ∀ X', CxOk g T n C L hx (fun _ _ _ _ => False) (blkS S sc) X' → PE X' ek (rE g T C hx (fun _ _ _ _ => False) kx)) (hv : ∀ X', CxOk g T n C L hx (fun _ _ _ _ => False) (blkS S sc) X' → PE X' ev (rE g T C hx (fun _ _ _ _ => False) vx)) :
    PE X (.DictComp ek ev [⟨tg', iter, ifs, 0⟩] sc pos) (rE g T C hx W (.dcomp kx vx tg it cs own)) := by
  by_cases hn : hx = none
  · have ok : BlkOk X.N X.env.scope sc (ownP S own) := by
      rw [O.N, O.sc]
      exact blkOk_by h2
    refine PE.weak (L2.pe_dc (O.calm hn) O.nd hi ok (fun s H A0 cl fp => g_any (blk_ok O) (O.calm hn) (fun x hx' => blk_sto O hx') h4) (fun s H A0 cl fp => ht _ (blk_ok O)) (fun s H A0 cl fp => hk _ (blk_ok O)) (fun s H A0 cl fp => hv _ (blk_ok O)) (noSet_fold h1)) fun σ H Q h => ?_
    rw [own_ix O]
    exact dcomp_wt O h3 h
  · exact ⟨fun pins s σ H Q I ⟨_, _, _, _, _, h, _⟩ => absurd h hn⟩
theorem s_setLc {elt it : E} {tg : Tg} {cs : A} {own : List Nat} {ee tg' iter : Expr} {ifs : List Expr} {sc : Scope} {pos spos py : Pos} {i : Nat} {y : Str} (hc : X.calm = true) (hy : X.N[i]? = some y) (hyl : X.env.scope.names.lookup y = some .local)
    (hsw : swapsWith (.ListComp ee [⟨tg', iter, ifs, 0⟩] sc pos) (some (.Name y py)) spos.line X.env = pure true)
    (hi : PI X tg' iter (rI g T C hx W it)) (h1 : noSet iter = true) (h2 : blkC S.N S.sc sc (ownP S own) = true) (h3 : ∀ i ∈ tgVs tg, i ∈ own)
    (h4 : ckTg (blkS S sc) (some sc) tg tg' = true)
    (ht : ∀ X', CxOk g T n C L hx (fun _ _ _ _ => False) (blkS S sc) X' → PTs X' ifs (rTs g T C hx cs)) (he : ∀ X', CxOk g T n C L hx (fun _ _ _ _ => False) (blkS S sc) X' → PE X' ee (rE g T C hx (fun _ _ _ _ => False) elt)) :
    PS X (.Assign [.Name y py] (.ListComp ee [⟨tg', iter, ifs, 0⟩] sc pos) spos) (tAsg (rE g T C hx W (.comp elt tg it cs own)) (gName i)) := by
  have ok : BlkOk X.N X.env.scope sc (ownP S own) := by
    rw [O.N, O.sc]
    exact blkOk_by h2
  refine PS.weak (ps_setLc hc O.nd hy hyl hsw hi ok (fun s H A0 cl fp => g_any (blk_ok O) hc (fun x hx' => blk_sto O hx') h4) (fun s H A0 cl fp => ht _ (blk_ok O)) (fun s H A0 cl fp => he _ (blk_ok O)) (noSet_fold h1)) fun D σ H h => ?_
  rw [own_ix O]
  exact comp_wt O h3 h
end
end
end Y
set_option linter.all false
set_option maxHeartbeats 4000000
set_option maxRecDepth 100000
namespace Y
open PySem PySem.Spec PyProof.Rows L2 RZ
section
variable {g : G} {T : Tab} {n : Nm} {C : Calls} {L : Nat} {hx : Option Exc}
theorem pe_false {X : Cx} {e : Expr} {t : TE} (h : ∀ σ H Q, ¬ t σ H Q) : PE X e t := ⟨fun pins s σ H Q I q => (h _ _ _ q).elim⟩
theorem pt_false {X : Cx} {e : Expr} {t : TT} (h : ∀ σ H Q, ¬ t σ H Q) : PT X e t := ⟨fun pins s σ H Q I q => (h _ _ _ q).elim⟩
theorem pw_false {X : Cx} {e : Expr} {t : TT} (h : ∀ σ H Q, ¬ t σ H Q) : PW X e t := ⟨fun wh pins s σ H Q I q => (h _ _ _ q).elim⟩
theorem pi_false {X : Cx} {tg e : Expr} {t : TI} (h : ∀ σ H Q, ¬ t σ H Q) : PI X tg e t := ⟨fun pins s σ H Q I q => (h _ _ _ q).elim⟩
theorem and2 {a b : Bool} (h : (a && b) = true) : a = true ∧ b = true := by rwa [Bool.and_eq_true] at h
def isBo : Expr → Bool
  | .BoolOp .. => true
  | _ => false
theorem bad_E {W : WX} : ∀ σ H Q, ¬ rE g T C hx W .bad σ H Q := fun _ _ _ ⟨_, _, _, _, _, h⟩ => h
theorem bad_T {W : WX} : ∀ σ H Q, ¬ rT g T C hx W .bad σ H Q := fun _ _ _ ⟨_, _, _, _, _, h⟩ => h
theorem bad_I {W : WX} : ∀ σ H R, ¬ rI g T C hx W .bad σ H R := fun _ _ _ ⟨_, _, _, _, _, h⟩ => h
mutual
theorem snd_E : ∀ (e : E) {W : WX} {S : Sta} {X : Cx} {ex : Expr}, CxOk g T n C L hx W S X → ckE n e S ex = true → PE X ex (rE g T C hx W e)
  | .var i, W, S, X, ex, O, h => by
    unfold ckE at h
    split at h
    · obtain ⟨h, h3⟩ := and2 h
      obtain ⟨h1, h2⟩ := and2 h
      exact s_var O (of_decide_eq_true h1) h2 h3
    · cases h
  | .con d, W, S, X, ex, O, h => by
    unfold ckE at h
    split at h
    · exact s_con O h
    · cases h
  | .glo k, W, S, X, ex, O, h => by
    unfold ckE at h
    split at h
    · obtain ⟨h, h3⟩ := and2 h
      obtain ⟨h1, h2⟩ := and2 h
      exact s_glo O (of_decide_eq_true h1) h2 h3
    · cases h
  | .bin o a b, W, S, X, ex, O, h => by
    unfold ckE at h
    split at h
    · obtain ⟨h, h3⟩ := and2 h
      obtain ⟨h1, h2⟩ := and2 h
      exact s_bin O h1 (snd_E a O h2) (snd_E b O h3)
    · cases h
  | .neg a, W, S, X, ex, O, h => by
    unfold ckE at h
    split at h
    · exact s_neg O (snd_E a O h)
    · cases h
  | .cmp o a b, W, S, X, ex, O, h => by
    unfold ckE at h
    split at h
    · obtain ⟨h, h4⟩ := and2 h
      obtain ⟨h, h3⟩ := and2 h
      obtain ⟨h1, h2⟩ := and2 h
      exact s_cmp O h1 h2 (snd_E a O h3) (snd_E b O h4)
    · cases h
  | .chain o o' a b c, W, S, X, ex, O, h => by
    unfold ckE at h
    split at h
    · obtain ⟨h, h6⟩ := and2 h
      obtain ⟨h, h5⟩ := and2 h
      obtain ⟨h, h4⟩ := and2 h
      obtain ⟨h, h3⟩ := and2 h
      obtain ⟨h1, h2⟩ := and2 h
      exact s_chain O h1 h2 h3 (snd_E a O h4) (snd_E b O h5) (snd_E c O h6)
    · cases h
  | .isN a, W, S, X, ex, O, h => by
    unfold ckE at h
    split at h
    · exact s_isN O (snd_E a O h)
    · cases h
  | .notN a, W, S, X, ex, O, h => by
    unfold ckE at h
    split at h
    · exact s_notN O (snd_E a O h)
    · cases h
  | .and a b, W, S, X, ex, O, h => by
    unfold ckE at h
    split at h
    · rename_i x y r pos
      obtain ⟨h1, h2⟩ := and2 h
      have hb := snd_E b O h2
      refine s_and O (snd_E a O h1) ?_
      cases r with
      | nil => exact pe_one hb
      | cons z r => exact hb
    · cases h
  | .or a b, W, S, X, ex, O, h => by
    unfold ckE at h
    split at h
    · rename_i x y r pos
      obtain ⟨h1, h2⟩ := and2 h
      have hb := snd_E b O h2
      refine s_or O (snd_E a O h1) ?_
      cases r with
      | nil => exact pe_one hb
      | cons z r => exact hb
    · cases h
  | .not a, W, S, X, ex, O, h => by
    unfold ckE at h
    split at h
    · exact s_not O (snd_E a O h)
    · cases h
  | .ife c a b, W, S, X, ex, O, h => by
    unfold ckE at h
    split at h
    · obtain ⟨h, h3⟩ := and2 h
      obtain ⟨h1, h2⟩ := and2 h
      exact s_ife O (snd_T c O h1).1 (snd_E a O h2) (snd_E b O h3)
    · cases h
  | .call f as df, W, S, X, ex, O, h => by
    unfold ckE at h
    split at h
    · obtain ⟨h, h6⟩ := and2 h
      obtain ⟨h, h5⟩ := and2 h
      obtain ⟨h, h4⟩ := and2 h
      obtain ⟨h, h3⟩ := and2 h
      obtain ⟨h1, h2⟩ := and2 h
      refine s_call O (of_decide_eq_true h1) ?_ h3 h4 h5 (nil_of O h6) (snd_A as O h5 h6)
      rcases (Bool.or_eq_true _ _).mp h2 with z | z
      · exact .inl (List.isEmpty_iff.mp z)
      · exact .inr (of_decide_eq_true z)
    · cases h
  | .make c f as, W, S, X, ex, O, h => by
    unfold ckE at h
    split at h
    · obtain ⟨h, h6⟩ := and2 h
      obtain ⟨h, h5⟩ := and2 h
      obtain ⟨h, h4⟩ := and2 h
      obtain ⟨h, h3⟩ := and2 h
      obtain ⟨h1, h2⟩ := and2 h
      exact s_make O (of_decide_eq_true h1) (of_decide_eq_true h2) h3 h4 h5 (nil_of O h6) (snd_A as O h5 h6)
    · cases h
  | .meth alts o as, W, S, X, ex, O, h => by
    unfold ckE at h
    split at h
    · obtain ⟨h, h7⟩ := and2 h
      obtain ⟨h, h6⟩ := and2 h
      obtain ⟨h, h5⟩ := and2 h
      obtain ⟨h, h4⟩ := and2 h
      obtain ⟨h, h3⟩ := and2 h
      obtain ⟨h1, h2⟩ := and2 h
      exact s_meth O h1 h2 h3 (of_decide_eq_true h4) h5 (nil_of O h7) (snd_E o O h6) (snd_A as O h5 h7)
    · cases h
  | .fld f o, W, S, X, ex, O, h => by
    unfold ckE at h
    split at h
    · obtain ⟨h, h3⟩ := and2 h
      obtain ⟨h1, h2⟩ := and2 h
      exact s_fld O (of_decide_eq_true h1) h2 (snd_E o O h3)
    · cases h
  | .pr p as, W, S, X, ex, O, h => by
    unfold ckE at h
    split at h
    · obtain ⟨h, h5⟩ := and2 h
      obtain ⟨h, h4⟩ := and2 h
      obtain ⟨h, h3⟩ := and2 h
      obtain ⟨h1, h2⟩ := and2 h
      exact s_pr O (of_decide_eq_true h1) h2 h3 h4 (snd_A as O h4 h5)
    · cases h
  | .me m o as, W, S, X, ex, O, h => by
    unfold ckE at h
    split at h
    · obtain ⟨h, h7⟩ := and2 h
      obtain ⟨h, h6⟩ := and2 h
      obtain ⟨h, h5⟩ := and2 h
      obtain ⟨h, h4⟩ := and2 h
      obtain ⟨h, h3⟩ := and2 h
      obtain ⟨h1, h2⟩ := and2 h
      exact s_me O (of_decide_eq_true h1) h2 h3 (of_decide_eq_true h4) h5 (nil_of O h7) (snd_E o O h6) (snd_A as O h5 h7)
    · cases h
  | .isi a ts, W, S, X, ex, O, h => by
    unfold ckE at h
    split at h
    · obtain ⟨h, h6⟩ := and2 h
      obtain ⟨h, h5⟩ := and2 h
      obtain ⟨h, h3⟩ := and2 h
      obtain ⟨h, h2⟩ := and2 h
      obtain ⟨h1, h1'⟩ := and2 h
      split at h6
      · exact s_isi1 O (of_decide_eq_true h1) h1' h3 h6 (snd_E a O h5)
      · split at h6
        · obtain ⟨h6, h7⟩ := and2 h6
          obtain ⟨h6, h8⟩ := and2 h6
          obtain ⟨h9, h10⟩ := and2 h8
          exact s_isiT O (of_decide_eq_true h1) h1' h3 (of_decide_eq_true h9) h7 (of_decide_eq_true h10) (snd_E a O h5)
        · cases h6
    · cases h
  | .idx a b, W, S, X, ex, O, h => by
    unfold ckE at h
    split at h
    · obtain ⟨h, h3⟩ := and2 h
      obtain ⟨h1, h2⟩ := and2 h
      exact s_idx O h1 (snd_E a O h2) (snd_E b O h3)
    · cases h
  | .sli a lo hi, W, S, X, ex, O, h => by
    unfold ckE at h
    split at h
    · obtain ⟨h, h3⟩ := and2 h
      obtain ⟨h1, h2⟩ := and2 h
      refine s_sli O (snd_E a O h1) ?_ ?_
      · split at h2
        · exact o_some O (snd_E lo O h2)
        · split at h2
          · exact o_none O
          · cases h2
      · split at h3
        · exact o_some O (snd_E hi O h3)
        · split at h3
          · exact o_none O
          · cases h3
    · cases h
  | .abs0, W, S, X, ex, O, h => by
    unfold ckE at h
    cases h
  | .tup as, W, S, X, ex, O, h => by
    unfold ckE at h
    split at h
    · obtain ⟨h, h3⟩ := and2 h
      obtain ⟨h1, h2⟩ := and2 h
      exact s_tup O h3 (of_decide_eq_true h2) (snd_A as O h1 h3)
    · cases h
  | .lst as, W, S, X, ex, O, h => by
    unfold ckE at h
    split at h
    · obtain ⟨h, h3⟩ := and2 h
      obtain ⟨h1, h2⟩ := and2 h
      exact s_lst O h3 (of_decide_eq_true h2) (snd_A as O h1 h3)
    · cases h
  | .comp elt tg it cs own, W, S, X, ex, O, h => by
    unfold ckE at h
    split at h
    · obtain ⟨h, h8⟩ := and2 h
      obtain ⟨h, h7⟩ := and2 h
      obtain ⟨h, h6⟩ := and2 h
      obtain ⟨h, h5⟩ := and2 h
      obtain ⟨h, h4⟩ := and2 h
      obtain ⟨h, h3⟩ := and2 h
      obtain ⟨h1, h2⟩ := and2 h
      exact s_comp O (snd_I it O h1) h2 h3 (fun i m => by simpa using List.all_eq_true.mp h6 i m) h5 (fun X' O' => snd_Ts cs O' h8) (fun X' O' => snd_E elt O' h7)
    · cases h
  | .fstr as, W, S, X, ex, O, h => by
    unfold ckE at h
    split at h
    · exact s_fstr O (snd_F as O h)
    · cases h
  | .bad, W, S, X, ex, O, h => pe_false bad_E
  | .dic as, W, S, X, ex, O, h => by
    unfold ckE at h
    split at h
    · obtain ⟨h1, h2⟩ := and2 h
      exact s_dic O (snd_D as O h2) (of_decide_eq_true h1)
    · cases h
  | .dcomp kx vx tg it cs own, W, S, X, ex, O, h => by
    unfold ckE at h
    split at h
    · obtain ⟨h, k9⟩ := and2 h
      obtain ⟨h, k8⟩ := and2 h
      obtain ⟨h, k7⟩ := and2 h
      obtain ⟨h, k6⟩ := and2 h
      obtain ⟨h, k5⟩ := and2 h
      obtain ⟨h, k4⟩ := and2 h
      obtain ⟨h, k3⟩ := and2 h
      obtain ⟨k1, k2⟩ := and2 h
      exact s_dcomp O (snd_I it O k1) k2 k3 (fun i m => by simpa using List.all_eq_true.mp k6 i m) k5 (fun X' O' => snd_Ts cs O' k9) (fun X' O' => snd_E kx O' k7) (fun X' O' => snd_E vx O' k8)
    · cases h
  | .rng1 _, _, _, _, _, _, h => by unfold ckE at h; cases h
  | .rng2 _ _, _, _, _, _, _, h => by unfold ckE at h; cases h
  | .enm _, _, _, _, _, _, h => by unfold ckE at h; cases h
  | .zip _ _, _, _, _, _, _, h => by unfold ckE at h; cases h
  | .tv _, _, _, _, _, _, h => by unfold ckE at h; cases h
  | .sq _, _, _, _, _, _, h => by unfold ckE at h; cases h
  | .efld _, _, _, _, _, _, h => by unfold ckE at h; cases h
  | .eisi _, _, _, _, _, _, h => by unfold ckE at h; cases h
theorem snd_T : ∀ (e : E) {W : WX} {S : Sta} {X : Cx} {ex : Expr}, CxOk g T n C L hx W S X → ckT n e S ex = true → PT X ex (rT g T C hx W e) ∧ (isBo ex = true → PW X ex (rT g T C hx W e))
  | .cmp o a b, W, S, X, ex, O, h => by
    unfold ckT at h
    split at h
    · obtain ⟨h, h4⟩ := and2 h
      obtain ⟨h, h3⟩ := and2 h
      obtain ⟨h1, h2⟩ := and2 h
      exact ⟨t_cmp O h1 h2 (snd_E a O h3) (snd_E b O h4), fun z => by cases z⟩
    · cases h
  | .chain o o' a b c, W, S, X, ex, O, h => by
    unfold ckT at h
    split at h
    · obtain ⟨h, h6⟩ := and2 h
      obtain ⟨h, h5⟩ := and2 h
      obtain ⟨h, h4⟩ := and2 h
      obtain ⟨h, h3⟩ := and2 h
      obtain ⟨h1, h2⟩ := and2 h
      exact ⟨t_chain O h1 h2 h3 (snd_E a O h4) (snd_E b O h5) (snd_E c O h6), fun z => by cases z⟩
    · cases h
  | .isN a, W, S, X, ex, O, h => by
    unfold ckT at h
    split at h
    · exact ⟨t_isN O (snd_E a O h), fun z => by cases z⟩
    · cases h
  | .notN a, W, S, X, ex, O, h => by
    unfold ckT at h
    split at h
    · exact ⟨t_notN O (snd_E a O h), fun z => by cases z⟩
    · cases h
  | .and a b, W, S, X, ex, O, h => by
    unfold ckT at h
    split at h
    · rename_i x y r pos
      obtain ⟨h1, h2⟩ := and2 h
      have hb := snd_T b O h2
      have q : PW X (.BoolOp .And (x :: y :: r) pos) (rT g T C hx W (.and a b)) := by
        refine w_and O (snd_T a O h1).1 ?_
        cases r with
        | nil => exact pw_and1 hb.1
        | cons z r => exact hb.2 rfl
      exact ⟨q.pt, fun _ => q⟩
    · cases h
  | .or a b, W, S, X, ex, O, h => by
    unfold ckT at h
    split at h
    · rename_i x y r pos
      obtain ⟨h1, h2⟩ := and2 h
      have hb := snd_T b O h2
      have q : PW X (.BoolOp .Or (x :: y :: r) pos) (rT g T C hx W (.or a b)) := by
        refine w_or O (snd_T a O h1).1 ?_
        cases r with
        | nil => exact pw_or1 hb.1
        | cons z r => exact hb.2 rfl
      exact ⟨q.pt, fun _ => q⟩
    · cases h
  | .not a, W, S, X, ex, O, h => by
    unfold ckT at h
    split at h
    · exact ⟨t_not O (snd_T a O h).1, fun z => by cases z⟩
    · cases h
  | .tv a, W, S, X, ex, O, h => by
    unfold ckT at h
    obtain ⟨h1, h2⟩ := and2 h
    refine ⟨t_tv O h1 (snd_E a O h2), fun z => ?_⟩
    cases ex <;> first | cases z; done | cases h1
  | .bad, W, S, X, ex, O, h => ⟨pt_false bad_T, fun _ => pw_false bad_T⟩
  | .var _, _, _, _, _, _, h => by unfold ckT at h; cases h
  | .con _, _, _, _, _, _, h => by unfold ckT at h; cases h
  | .glo _, _, _, _, _, _, h => by unfold ckT at h; cases h
  | .bin _ _ _, _, _, _, _, _, h => by unfold ckT at h; cases h
  | .neg _, _, _, _, _, _, h => by unfold ckT at h; cases h
  | .ife _ _ _, _, _, _, _, _, h => by unfold ckT at h; cases h
  | .call _ _ _, _, _, _, _, _, h => by unfold ckT at h; cases h
  | .make _ _ _, _, _, _, _, _, h => by unfold ckT at h; cases h
  | .meth _ _ _, _, _, _, _, _, h => by unfold ckT at h; cases h
  | .fld _ _, _, _, _, _, _, h => by unfold ckT at h; cases h
  | .pr _ _, _, _, _, _, _, h => by unfold ckT at h; cases h
  | .me _ _ _, _, _, _, _, _, h => by unfold ckT at h; cases h
  | .isi _ _, _, _, _, _, _, h => by unfold ckT at h; cases h
  | .idx _ _, _, _, _, _, _, h => by unfold ckT at h; cases h
  | .sli _ _ _, _, _, _, _, _, h => by unfold ckT at h; cases h
  | .abs0, _, _, _, _, _, h => by unfold ckT at h; cases h
  | .tup _, _, _, _, _, _, h => by unfold ckT at h; cases h
  | .lst _, _, _, _, _, _, h => by unfold ckT at h; cases h
  | .dic _, _, _, _, _, _, h => by unfold ckT at h; cases h
  | .comp _ _ _ _ _, _, _, _, _, _, h => by unfold ckT at h; cases h
  | .dcomp _ _ _ _ _ _, _, _, _, _, _, h => by unfold ckT at h; cases h
  | .fstr _, _, _, _, _, _, h => by unfold ckT at h; cases h
  | .rng1 _, _, _, _, _, _, h => by unfold ckT at h; cases h
  | .rng2 _ _, _, _, _, _, _, h => by unfold ckT at h; cases h
  | .enm _, _, _, _, _, _, h => by unfold ckT at h; cases h
  | .zip _ _, _, _, _, _, _, h => by unfold ckT at h; cases h
  | .sq _, _, _, _, _, _, h => by unfold ckT at h; cases h
  | .efld _, _, _, _, _, _, h => by unfold ckT at h; cases h
  | .eisi _, _, _, _, _, _, h => by unfold ckT at h; cases h
theorem snd_A : ∀ (as : A) {W : WX} {S : Sta} {X : Cx} {es : List Expr}, CxOk g T n C L hx W S X → noStars es = true → ckA n as S es = true → PA X es (rA g T C hx W as)
  | .nil, W, S, X, es, O, ns, h => by
    unfold ckA at h
    split at h
    · exact a_nil O
    · cases h
  | .cons e as, W, S, X, es, O, ns, h => by
    unfold ckA at h
    split at h
    · obtain ⟨h1, h2⟩ := and2 h
      obtain ⟨n1, n2⟩ := and2 ns
      exact a_cons O n1 (snd_E e O h1) (snd_A as O n2 h2)
    · cases h
theorem snd_D : ∀ (as : A) {W : WX} {S : Sta} {X : Cx} {ks : List (Option Expr)} {vs : List Expr}, CxOk g T n C L hx W S X → ckD n as S ks vs = true → QD X (rE g T C hx W) ks vs as
  | .nil, W, S, X, ks, vs, O, h => by
    unfold ckD at h
    split at h
    · exact .nil
    · cases h
  | .cons _ .nil, W, S, X, ks, vs, O, h => by
    unfold ckD at h
    cases h
  | .cons k (.cons v as), W, S, X, ks, vs, O, h => by
    unfold ckD at h
    split at h
    · obtain ⟨h, h3⟩ := and2 h
      obtain ⟨h1, h2⟩ := and2 h
      exact .cons (snd_E k O h1) (snd_E v O h2) (snd_D as O h3)
    · cases h
theorem snd_F : ∀ (as : A) {W : WX} {S : Sta} {X : Cx} {es : List Expr}, CxOk g T n C L hx W S X → ckF n as S es = true → QF X (rE g T C hx W) es as
  | .nil, W, S, X, es, O, h => by
    unfold ckF at h
    split at h
    · exact .nil
    · cases h
  | .cons e as, W, S, X, es, O, h => by
    unfold ckF at h
    split at h
    · obtain ⟨h1, h2⟩ := and2 h
      exact .fmt (snd_E e O h1) (snd_F as O h2)
    · obtain ⟨h1, h2⟩ := and2 h
      split at h1
      · obtain ⟨h1, _⟩ := and2 h1
        rw [of_decide_eq_true h1]
        exact .con (snd_F as O h2)
      · cases h1
    · cases h
theorem snd_Ts : ∀ (as : A) {S : Sta} {X : Cx} {es : List Expr}, CxOk g T n C L hx (fun _ _ _ _ => False) S X → ckTs n as S es = true → PTs X es (rTs g T C hx as)
  | .nil, S, X, es, O, h => by
    unfold ckTs at h
    split at h
    · exact ⟨fun pins s σ H Q I ⟨m, env, st, a, b, c⟩ => pts_nil.run pins s σ H Q I (c m H (.refl _ _) a)⟩
    · cases h
  | .cons e .nil, S, X, es, O, h => by
    unfold ckTs at h
    split at h
    · obtain ⟨h1, _⟩ := and2 h
      have q := pts_one (snd_T e O h1).1
      exact ⟨fun pins s σ H Q I ⟨m, env, st, a, b, c⟩ => q.run pins s σ H Q I ⟨m, env, st, a, b, wpT_mono O.MC e env st _ _ _ _ (fun _ _ z => z) (fun _ _ z => z.elim) c⟩⟩
    · cases h
  | .cons e (.cons _ _), S, X, es, O, h => ⟨fun pins s σ H Q I ⟨_, _, _, _, _, z⟩ => z.elim⟩
theorem snd_I : ∀ (e : E) {W : WX} {S : Sta} {X : Cx} {tg ex : Expr}, CxOk g T n C L hx W S X → ckI n e S tg ex = true → PI X tg ex (rI g T C hx W e)
  | .rng1 a, W, S, X, tg, ex, O, h => by
    unfold ckI at h
    split at h
    · obtain ⟨h, h5⟩ := and2 h
      obtain ⟨h, h4⟩ := and2 h
      obtain ⟨h, h3⟩ := and2 h
      obtain ⟨h1, h2⟩ := and2 h
      exact i_rng1 O (of_decide_eq_true h1) h2 h4 (snd_E a O h5)
    · cases h
  | .rng2 a b, W, S, X, tg, ex, O, h => by
    unfold ckI at h
    split at h
    · obtain ⟨h, h7⟩ := and2 h
      obtain ⟨h, h6⟩ := and2 h
      obtain ⟨h, h5⟩ := and2 h
      obtain ⟨h, h4⟩ := and2 h
      obtain ⟨h, h3⟩ := and2 h
      obtain ⟨h1, h2⟩ := and2 h
      exact i_rng2 O (of_decide_eq_true h1) h2 h4 h5 (snd_E a O h6) (snd_E b O h7)
    · cases h
  | .enm a, W, S, X, tg, ex, O, h => by
    unfold ckI at h
    split at h
    · obtain ⟨h, h5⟩ := and2 h
      obtain ⟨h, h4⟩ := and2 h
      obtain ⟨h, h3⟩ := and2 h
      obtain ⟨h1, h2⟩ := and2 h
      exact i_enm O (of_decide_eq_true h1) h2 h4 (snd_E a O h5)
    · cases h
  | .zip a b, W, S, X, tg, ex, O, h => by
    unfold ckI at h
    split at h
    · obtain ⟨h, h7⟩ := and2 h
      obtain ⟨h, h6⟩ := and2 h
      obtain ⟨h, h5⟩ := and2 h
      obtain ⟨h, h4⟩ := and2 h
      obtain ⟨h, h3⟩ := and2 h
      obtain ⟨h1, h2⟩ := and2 h
      exact i_zip O (of_decide_eq_true h1) h2 h4 h5 (snd_E a O h6) (snd_E b O h7)
    · cases h
  | .sq a, W, S, X, tg, ex, O, h => by
    unfold ckI at h
    exact i_sq O (snd_E a O h)
  | .bad, W, S, X, tg, ex, O, h => pi_false bad_I
  | .var _, _, _, _, _, _, _, h => by unfold ckI at h; cases h
  | .con _, _, _, _, _, _, _, h => by unfold ckI at h; cases h
  | .glo _, _, _, _, _, _, _, h => by unfold ckI at h; cases h
  | .bin _ _ _, _, _, _, _, _, _, h => by unfold ckI at h; cases h
  | .neg _, _, _, _, _, _, _, h => by unfold ckI at h; cases h
  | .cmp _ _ _, _, _, _, _, _, _, h => by unfold ckI at h; cases h
  | .chain _ _ _ _ _, _, _, _, _, _, _, h => by unfold ckI at h; cases h
  | .isN _, _, _, _, _, _, _, h => by unfold ckI at h; cases h
  | .notN _, _, _, _, _, _, _, h => by unfold ckI at h; cases h
  | .and _ _, _, _, _, _, _, _, h => by unfold ckI at h; cases h
  | .or _ _, _, _, _, _, _, _, h => by unfold ckI at h; cases h
  | .not _, _, _, _, _, _, _, h => by unfold ckI at h; cases h
  | .tv _, _, _, _, _, _, _, h => by unfold ckI at h; cases h
  | .ife _ _ _, _, _, _, _, _, _, h => by unfold ckI at h; cases h
  | .call _ _ _, _, _, _, _, _, _, h => by unfold ckI at h; cases h
  | .make _ _ _, _, _, _, _, _, _, h => by unfold ckI at h; cases h
  | .meth _ _ _, _, _, _, _, _, _, h => by unfold ckI at h; cases h
  | .fld _ _, _, _, _, _, _, _, h => by unfold ckI at h; cases h
  | .pr _ _, _, _, _, _, _, _, h => by unfold ckI at h; cases h
  | .me _ _ _, _, _, _, _, _, _, h => by unfold ckI at h; cases h
  | .isi _ _, _, _, _, _, _, _, h => by unfold ckI at h; cases h
  | .idx _ _, _, _, _, _, _, _, h => by unfold ckI at h; cases h
  | .sli _ _ _, _, _, _, _, _, _, h => by unfold ckI at h; cases h
  | .abs0, _, _, _, _, _, _, h => by unfold ckI at h; cases h
  | .tup _, _, _, _, _, _, _, h => by unfold ckI at h; cases h
  | .lst _, _, _, _, _, _, _, h => by unfold ckI at h; cases h
  | .dic _, _, _, _, _, _, _, h => by unfold ckI at h; cases h
  | .comp _ _ _ _ _, _, _, _, _, _, _, h => by unfold ckI at h; cases h
  | .dcomp _ _ _ _ _ _, _, _, _, _, _, _, h => by unfold ckI at h; cases h
  | .fstr _, _, _, _, _, _, _, h => by unfold ckI at h; cases h
  | .efld _, _, _, _, _, _, _, h => by unfold ckI at h; cases h
  | .eisi _, _, _, _, _, _, _, h => by unfold ckI at h; cases h
end
end
end Y
set_option linter.all false
set_option maxHeartbeats 4000000
set_option maxRecDepth 100000
namespace Y
open PySem PySem.Spec PyProof.Rows L2 RZ
def noComp : Expr → Bool
  | .ListComp .. => false | .SetComp .. => false | .DictComp .. => false
  | _ => true
def isLc : Expr → Bool
  | .ListComp .. => true
  | _ => false
def noTupE : Expr → Bool
  | .Tuple .. => false
  | _ => true
def asgB : Expr → Expr → Bool
  | .Name _ _, ex => noComp ex || isLc ex
  | .Tuple .., ex => noTupE ex && noComp ex
  | _, _ => false
def loB (S : Sta) (x : Str) : Bool := match S.sc.names.lookup x with
  | some .local => true
  | _ => false
def ckR (n : Nm) : A → Sta → List Expr → Bool
  | .nil, _, [] => true
  | .cons e .nil, S, [ea] => ckE n e S ea
  | _, _, _ => false
def adB : Op → Bool
  | .add => true | .sub => true
  | _ => false
mutual
def ckS (n : Nm) : S → Sta → Stmt → Bool
  | .asg tg e, S, st => (match st with
    | .Assign [t] ex _ => ckTg S none tg t && asgB t ex && ckE n e S ex
    | _ => false)
  | .asg2 i j a b, S, st => (match st with
    | .Assign [.Tuple [.Name x px, .Name y py] _ _] (.Tuple [ea, eb] _ _) _ => decide (S.N[i]? = some x) && decide (S.N[j]? = some y) && decide (i ≠ j) && loB S x && loB S y && (py.line == px.line) && !(x == y) && noStars [ea, eb] &&
      !([ea, eb].all (foldedForSure 8)) && !([ea, eb].all (constantsAlone 8)) && ckE n a S ea && ckE n b S eb
    | _ => false)
  | .setf o f e, S, st => (match st with
    | .Assign [.Attribute eo x _] ex _ => decide (n.fd f = some x) && ckE n o S eo && ckE n e S ex
    | _ => false)
  | .seti o i e, S, st => (match st with
    | .Assign [.Subscript eo ei _] ex _ => ixB ei && ckE n o S eo && ckE n i S ei && ckE n e S ex
    | _ => false)
  | .augn i op e, S, st => (match st with
    | .AugAssign (.Name x _) eop ex _ => decide (S.N[i]? = some x) && locB S x && opB op eop && adB op && ckE n e S ex
    | _ => false)
  | .augf o f op e, S, st => (match st with
    | .AugAssign (.Attribute eo x _) eop ex _ => decide (n.fd f = some x) && opB op eop && adB op && ckE n o S eo && ckE n e S ex
    | _ => false)
  | .exp e, S, st => (match st with
    | .Expr ex _ => noComp ex && ckE n e S ex
    | _ => false)
  | .ret e, S, st => (match st with
    | .Return (some ex) _ => ckE n e S ex
    | _ => false)
  | .retN, S, st => (match st with
    | .Return none _ => true
    | _ => false)
  | .ifS c a b, S, st => (match st with
    | .If ec sa sb _ => ckT n c S ec && ckB n a S sa && ckB n b S sb
    | _ => false)
  | .forS tg it b, S, st => (match st with
    | .For t iter body [] _ => ckTg S none tg t && ckI n it S t iter && noSet iter && ckB n b S body
    | _ => false)
  | .whl c b, S, st => (match st with
    | .While ec body [] _ => ckT n c S ec && ckB n b S body
    | _ => false)
  | .brk, S, st => (match st with
    | .Break _ => true
    | _ => false)
  | .cnt, S, st => (match st with
    | .Continue _ => true
    | _ => false)
  | .pas, S, st => (match st with
    | .Pass _ => true
    | _ => false)
  | .rais c as, S, st => (match st with
    | .Raise (some (.Call (.Name x _) args [] _)) none _ => decide (n.ex c = some x) && gloB S x && okN x && noStars args && ckR n as S args
    | _ => false)
  | .tryS b hs, S, st => (match st with
    | .Try body (h0 :: hds) [] [] _ => ckB n b S body && ckH n hs S (h0 :: hds)
    | _ => false)
  | .bad, _, _ => true
  | .del _ _, _, _ => false
def ckB (n : Nm) : B → Sta → List Stmt → Bool
  | .nil, _, l => (match l with
    | [] => true
    | _ => false)
  | .cons s b, S, l => (match l with
    | x :: r => ckS n s S x && ckB n b S r
    | _ => false)
def ckH (n : Nm) : Hs → Sta → List ExceptHandler → Bool
  | .nil, _, l => (match l with
    | [] => true
    | _ => false)
  | .cons c nm b hs, S, l => (match l with
    | .ExceptHandler (some (.Name x _)) none (b0 :: suite) _ :: r => decide (n.ex c = some x) && gloB S x && okN x && (match nm with
      | none => true
      | some _ => false) && ckB n b S (b0 :: suite) && ckH n hs S r
    | _ => false)
end
structure CxS (g : G) (T : Tab) (n : Nm) (C : Calls) (L : Nat) (hx : Option Exc) (W : WX) (S : Sta) (X : Cx) : Prop where
  ok : CxOk g T n C L hx W S X
  fn : ∀ x, X.fn x = true
  kind : X.env.scope.kind = .function
  own : hx = none → PassesOwn (model X.prog X.w) X.A X.env X.xe
  stk : X.stack = X.env :: X.outer
  frm : X.env.frame = some X.env.locals
def kEnd (g : G) (m : Mp) (H : Hp) (W : WX) (D : Ends) : K where
  nx e s := ∀ m' H' σ', Ext m m' H H' → SR g m' H' s → ER g m' H' σ' e → D.nx σ' H'
  rt d s := ∀ m' H' v, Ext m m' H H' → SR g m' H' s → RD g m' H' d v → D.rt v H'
  bk e s := ∀ m' H' σ', Ext m m' H H' → SR g m' H' s → ER g m' H' σ' e → D.bk σ' H'
  ct e s := ∀ m' H' σ', Ext m m' H H' → SR g m' H' s → ER g m' H' σ' e → D.ct σ' H'
  xc x e s := ∀ m' H' σ' cls dx, Ext m m' H H' → SR g m' H' s → ER g m' H' σ' e → RX g m' H' x cls dx → W cls dx σ' H'
theorem kEnd_ext {g : G} {m m' : Mp} {H H' : Hp} {W : WX} {D : Ends} (e : Ext m m' H H') : (kEnd g m H W D).Le (kEnd g m' H' W D) :=
  ⟨fun _ _ z m2 H2 σ e2 => z m2 H2 σ (e.trans e2), fun _ _ z m2 H2 v e2 => z m2 H2 v (e.trans e2), fun _ _ z m2 H2 σ e2 => z m2 H2 σ (e.trans e2), fun _ _ z m2 H2 σ e2 => z m2 H2 σ (e.trans e2), fun _ _ _ z m2 H2 σ c d e2 => z m2 H2 σ c d (e.trans e2)⟩
def rS (g : G) (T : Tab) (C : Calls) (hx : Option Exc) (W : WX) (s : S) : TS := fun D σ H => ∃ (m : Mp) (env : Env) (st : Store), SR g m H st ∧ ER g m H σ env ∧ wpS T C hx s env st (kEnd g m H W D)
def rB (g : G) (T : Tab) (C : Calls) (hx : Option Exc) (W : WX) (b : B) : TS := fun D σ H => ∃ (m : Mp) (env : Env) (st : Store), SR g m H st ∧ ER g m H σ env ∧ wpB T C hx b env st (kEnd g m H W D)
section
variable {g : G} {T : Tab} {n : Nm} {C : Calls} {L : Nat} {hx : Option Exc} {W : WX} {S : Sta} {X : Cx}
theorem tg_nm {tg : Tg} {x : Str} {p : Pos} (h : ckTg S none tg (.Name x p) = true) : ∃ i, tg = .nm i ∧ S.N[i]? = some x ∧ stB S none x = true := by
  cases tg with
  | nm i =>
    have h : (decide (S.N[i]? = some x) && stB S none x) = true := h
    rw [Bool.and_eq_true] at h
    exact ⟨i, rfl, of_decide_eq_true h.1, h.2⟩
  | tp is => exact absurd (show false = true from h) Bool.false_ne_true
theorem ps_false {s : Stmt} {t : TS} (h : ∀ D σ H, ¬ t D σ H) : PS X s t := ⟨fun pins s σ H D I q => (h _ _ _ q).elim⟩
theorem lc_of {e : E} {S : Sta} {ee : Expr} {gs : List Comprehension} {sc : Scope} {pos : Pos} (h : ckE n e S (.ListComp ee gs sc pos) = true) : (∃ elt tg it cs own, e = .comp elt tg it cs own) ∨ e = .bad := by
  cases e <;> first
    | exact .inl ⟨_, _, _, _, _, rfl⟩
    | exact .inr rfl
    | (unfold ckE at h; cases h)
section
variable (O : CxS g T n C L hx W S X)
include O
theorem sto {x : Str} (h : stB S none x = true) : stoB X x := by
  unfold stB at h
  rw [Bool.and_eq_true] at h
  exact ⟨O.ok.loc h.1, .inl (O.fn x)⟩
theorem xk {m : Mp} {H : Hp} {σ : L2.St} {env : Env} {D : Ends} (E1 : ER g m H σ env) {x : Exc} {s : Store} (z : (kEnd g m H W D).xc x env s) : Wx g m H (WE W σ) x s := fun m2 H2 cls dx e2 S2 r2 => z m2 H2 σ cls dx e2 S2 (E1.mono e2) r2
theorem go_S {e : E} {σ : L2.St} {H : Hp} {m : Mp} {env : Env} {st : Store} {Q : VK} {D : Ends} {R : QE} (SR_ : SR g m H st) (ER_ : ER g m H σ env) (h : wpE T C hx e env st R fun x s => (kEnd g m H W D).xc x env s)
    (k : ∀ d s m' H' v, Ext m m' H H' → SR g m' H' s → ER g m' H' σ env → RD g m' H' d v → R d s → Q v H') : rE g T C hx W e σ H Q :=
  go_E O.ok SR_ ER_ (wpE_mono O.ok.MC e env st _ _ _ _ (fun _ _ z => z) (fun _ _ z => xk O ER_ z) h) k
theorem x_S {e : E} {H H' : Hp} {m m' : Mp} {env : Env} {st : Store} {D : Ends} {R : QE} (e1 : Ext m m' H H') (h : wpE T C hx e env st R fun x s => (kEnd g m H W D).xc x env s) : wpE T C hx e env st R fun x s => (kEnd g m' H' W D).xc x env s :=
  wpE_mono O.ok.MC e env st _ _ _ _ (fun _ _ z => z) (fun _ _ z => (kEnd_ext e1).xc _ _ _ z) h
theorem asg_wt {tg : Tg} {e : E} {D : Ends} {σ : L2.St} {H : Hp} (h : rS g T C hx W (.asg tg e) D σ H) : tAsg (rE g T C hx W e) (rG g tg) D σ H := by
  obtain ⟨m, env, st, SR_, ER_, h⟩ := h
  refine go_S O SR_ ER_ h.2 fun d s m1 H1 v e1 S1 E1 r1 z => ?_
  split at z
  · rename_i env' eb
    exact ⟨m1, env, env', d, E1, r1, eb, fun σ' E2 _ => z m1 H1 σ' e1 S1 E2⟩
  · exact z.elim
theorem no_sw {ex : Expr} {t : Option Expr} {l : Nat} (h : noComp ex = true) : swapsWith ex t l X.env = pure false := by
  cases ex <;> first | rfl | cases h
theorem lc_sw {ee : Expr} {gs : List Comprehension} {sc : Scope} {pos py : Pos} {y : Str} {l : Nat} : (X.env.scope.names.lookup y = some .local ∧ swapsWith (.ListComp ee gs sc pos) (some (.Name y py)) l X.env = pure true) ∨ swapsWith (.ListComp ee gs sc pos) (some (.Name y py)) l X.env = pure false := by
  have hb : X.env.blockKind = .function := by unfold PySem.Env.blockKind; rw [O.kind]; rfl
  have q : swapsWith (.ListComp ee gs sc pos) (some (.Name y py)) l X.env = pure (X.env.kindOf y == some .local && py.line == pos.line && !(sc.names.any fun (n, k) => n == y && (k == .local || k == .cell))) := by
    unfold swapsWith
    simp only [hb, Expr.pos]
    rfl
  rw [q]
  by_cases z : X.env.kindOf y = some .local
  · cases (X.env.kindOf y == some .local && py.line == pos.line && !(sc.names.any fun (n, k) => n == y && (k == .local || k == .cell))) with
    | true => exact .inl ⟨z, rfl⟩
    | false => exact .inr rfl
  · have z2 : (X.env.kindOf y == some .local) = false := by
      cases hk : X.env.kindOf y with
      | none => rfl
      | some k =>
        cases k <;> first | rfl | exact absurd hk z
    rw [z2]
    exact .inr rfl
theorem g_asg {tg : Tg} {t : Expr} (h : ckTg S none tg t = true) (hn : ∀ is, tg = .tp is → hx = none) : PG X t (rG g tg) := by
  cases tg with
  | nm i =>
    unfold ckTg at h
    split at h
    · rename_i x p e
      cases e
      rw [Bool.and_eq_true] at h
      refine g_name O.ok.nd ?_ (sto O h.2)
      rw [O.ok.N]
      exact of_decide_eq_true h.1
    · rename_i e
      cases e
    · cases h
  | tp is => exact g_any O.ok (O.ok.calm (hn is rfl)) (fun x => sto O) h
theorem st_asg {tg : Tg} {e : E} {t ex : Expr} {pos : Pos} (h1 : ckTg S none tg t = true) (h2 : asgB t ex = true) (h3 : ckE n e S ex = true) : PS X (.Assign [t] ex pos) (rS g T C hx W (.asg tg e)) := by
  have he := snd_E e O.ok h3
  by_cases hn : ∀ is, tg = .tp is → hx = none
  · have hg := g_asg O h1 hn
    cases t with
    | Name x p =>
      cases hc : noComp ex with
      | true => exact PS.weak (ps_asg he hg (no_sw O (t := some (.Name x p)) (l := pos.line) hc) rfl rfl) fun D σ H h => asg_wt O h
      | false =>
        have h2 : (noComp ex || isLc ex) = true := h2
        rw [hc, Bool.false_or] at h2
        cases ex with
        | ListComp ee gs sc lpos =>
          rcases lc_sw O (ee := ee) (gs := gs) (sc := sc) (pos := lpos) (py := p) (y := x) (l := pos.line) with ⟨hl, sw⟩ | sw
          · rcases lc_of h3 with ⟨elt, tg2, it, cs, own, rfl⟩ | rfl
            · by_cases hn2 : hx = none
              · have h30 := h3
                unfold ckE at h3
                split at h3
                · rename_i e1
                  cases e1
                  obtain ⟨h, k8⟩ := and2 h3
                  obtain ⟨h, k7⟩ := and2 h
                  obtain ⟨h, k6⟩ := and2 h
                  obtain ⟨h, k5⟩ := and2 h
                  obtain ⟨h, k4⟩ := and2 h
                  obtain ⟨h, k3⟩ := and2 h
                  obtain ⟨k1, k2⟩ := and2 h
                  obtain ⟨i, rfl, i1, i2⟩ := tg_nm h1
                  refine PS.weak (s_setLc O.ok (O.ok.calm hn2) (i := i) (by rw [O.ok.N]; exact i1) hl sw (snd_I it O.ok k1) k2 k3 (fun i m => by simpa using List.all_eq_true.mp k6 i m) k5 (fun X' O' => snd_Ts cs O' k8) (fun X' O' => snd_E elt O' k7)) fun D σ H h => ?_
                  obtain ⟨m, env, st, SR_, ER_, h⟩ := h
                  refine go_S O SR_ ER_ h.2 fun d s m1 H1 v e1 S1 E1 r1 z => ?_
                  exact z m1 H1 _ e1 S1 (E1.set i r1)
                · cases h3
              · exact ps_false fun D σ H ⟨m, env, st, _, _, _, h⟩ => hn2 h.1
            · exact ps_false fun D σ H ⟨m, env, st, _, _, _, h⟩ => h
          · exact PS.weak (ps_asg he hg sw rfl rfl) fun D σ H h => asg_wt O h
        | _ => cases h2
    | Tuple es k p =>
      have h2 : (noTupE ex && noComp ex) = true := h2
      obtain ⟨h2, hc⟩ := and2 h2
      refine PS.weak (ps_asg he hg (no_sw O (t := some (.Tuple es k p)) (l := pos.line) hc) ?_ rfl) fun D σ H h => asg_wt O h
      cases ex <;> first | rfl | cases h2
    | _ => cases h2
  · refine ps_false fun D σ H ⟨m, env, st, _, _, h⟩ => hn fun is e => ?_
    subst e
    exact h.1
theorem sw_pair {x y : Str} {px py pt : Pos} {ea eb : Expr} {kt k2 : Nat} {pt2 : Pos} (hx' : X.env.scope.names.lookup x = some .local) (hy : X.env.scope.names.lookup y = some .local) (hl : (py.line == px.line) = true) (hne : (x == y) = false) (hs : noStars [ea, eb] = true)
    (h1 : ([ea, eb].all (foldedForSure 8)) = false) (h2 : ([ea, eb].all (constantsAlone 8)) = false) : swappedStores [.Tuple [.Name x px, .Name y py] kt pt] (.Tuple [ea, eb] k2 pt2) X.env = pure (some [x, y]) := by
  have hb : X.env.blockKind = .function := by unfold PySem.Env.blockKind; rw [O.kind]; rfl
  have kx : X.env.kindOf x = some .local := hx'
  have ky : X.env.kindOf y = some .local := hy
  obtain ⟨s1, s2⟩ := and2 (show (noStar ea && noStars [eb]) = true from hs)
  obtain ⟨s2, _⟩ := and2 (show (noStar eb && true) = true from s2)
  have st : ([ea, eb].any fun | .Starred .. => true | _ => false) = false := by
    cases ea <;> first
      | (cases s1; done)
      | (cases eb <;> first | rfl | (cases s2; done))
  have ed : ([x, y] : List Str).eraseDups.length = 2 := by
    have e : ([x, y] : List Str).eraseDups = [x, y] := by
      have yx : (y == x) = false := by
        apply Bool.eq_false_iff.mpr
        intro z
        rw [eq_of_beq z] at hne
        simp at hne
      simp [List.eraseDups_cons, yx]
    rw [e]
    rfl
  have le : py.line = px.line := eq_of_beq hl
  unfold swappedStores
  dsimp only [Expr.pos, List.head?, Option.map, Option.getD, List.length_cons, List.length_nil]
  refine (if_neg ?_).trans ?_
  · rw [hb]; decide
  refine (if_neg (fun z => Bool.false_ne_true (st.symm.trans z))).trans ?_
  rw [h1, h2]
  simp only [List.filterMap_cons, List.filterMap_nil, kx, ky, le, BEq.rfl, Bool.and_self, if_true, ed]
  rfl
theorem st_asg2 {i j : Nat} {a b : E} {x y : Str} {px py pt : Pos} {ea eb : Expr} {kt k2 : Nat} {pt2 pos : Pos} (h1 : S.N[i]? = some x) (h2 : S.N[j]? = some y) (h3 : i ≠ j) (h4 : loB S x = true) (h5 : loB S y = true) (h6 : (py.line == px.line) = true) (h7 : (x == y) = false)
    (h8 : noStars [ea, eb] = true) (h9 : ([ea, eb].all (foldedForSure 8)) = false) (h10 : ([ea, eb].all (constantsAlone 8)) = false) (ha : PE X ea (rE g T C hx W a)) (hb : PE X eb (rE g T C hx W b)) :
    PS X (.Assign [.Tuple [.Name x px, .Name y py] kt pt] (.Tuple [ea, eb] k2 pt2) pos) (rS g T C hx W (.asg2 i j a b)) := by
  by_cases hn : hx = none
  · have lo : ∀ z, loB S z = true → X.env.scope.names.lookup z = some .local := fun z hz => by
      unfold loB at hz
      rw [O.ok.sc]
      split at hz
      · assumption
      · cases hz
    obtain ⟨s1, s2⟩ := and2 (show (noStar ea && noStars [eb]) = true from h8)
    obtain ⟨s2, _⟩ := and2 (show (noStar eb && true) = true from s2)
    refine PS.weak (ps_par (O.ok.calm hn) O.ok.nd (by rw [O.ok.N]; exact h1) (by rw [O.ok.N]; exact h2) h3 (lo x h4) (lo y h5) (a_cons O.ok s1 ha (a_cons O.ok s2 hb (a_nil O.ok))) (sw_pair O (lo x h4) (lo y h5) h6 h7 h8 h9 h10) rfl) fun D σ H ⟨m, env, st, SR_, ER_, _, h⟩ => ?_
    refine go_A O.ok SR_ ER_ (R := fun ds s1 => ∃ x y, ds = [x, y] ∧ (kEnd g m H W D).nx ((env.set i (some x)).set j (some y)) s1) (wpE_mono O.ok.MC a env st _ _ _ _ (fun d s z => wpE_mono O.ok.MC b env s _ _ _ _ (fun d2 s z => ⟨d, d2, rfl, z⟩) (fun _ _ z => xk O ER_ z) z) (fun _ _ z => xk O ER_ z) h) fun ds s1 m1 H1 vs e1 S1 E1 r1 ⟨dx, dy, ex, z⟩ => ?_
    subst ex
    obtain ⟨v, w, rfl, rv, rw'⟩ := r1.two
    exact ⟨v, w, rfl, z m1 H1 _ e1 S1 ((E1.set i rv).set j rw')⟩
  · exact ps_false fun D σ H ⟨m, env, st, _, _, h, _⟩ => hn h
theorem fld_set {m : Mp} {H : Hp} {st : Store} {d dv : D} {v y : V} {f : Nat} {x : Str} {σ : L2.St} {env : Env} {R : Hp → Prop} (hf : n.fd f = some x) (S1 : SR g m H st) (r : RD g m H d v) (ry : RD g m H dv y)
    (h : setfQ st d f dv fun s => ∀ m' H', Ext m m' H H' → SR g m' H' s → R H') : ∃ a c dx fs, v = .ref a ∧ H a = some (.ins (g.ca c) dx fs) ∧ clsOf st d = some c ∧ Cls X.K (g.ca c) ∧ NoAttr X.K (g.ca c) x ∧ fs.length < 1000 ∧ R (upd H a (.ins (g.ca c) dx (L2.putF x y fs))) := by
  unfold setfQ at h
  split at h
  · split at h
    · rename_i c fs e0
      obtain ⟨a, rfl, ea⟩ := rd_ref r
      obtain ⟨dx, vs, hH, rf, okc⟩ := S1.get ea e0
      have okc0 := okc
      rw [O.ok.top.okc] at okc
      obtain ⟨nm, hy⟩ := Option.isSome_iff_exists.mp okc
      have cl := (O.ok.top.cl c nm hy).2.cl
      have na := O.ok.top.noat c nm f x hy hf
      rw [← O.ok.K] at cl na
      have len : vs.length = fs.length := (Paired.length rf).symm
      have rf2 : RF g m H (putF f dv fs) (L2.putF x y vs) := by
        have nmi := O.ok.F.nmi
        have hf' : g.nm f = some x := by rw [O.ok.top.nm]; exact hf
        clear hH e0 h len
        induction rf with
        | nil => exact .cons ⟨hf', ry⟩ .nil
        | @cons p q ps qs hp t ih =>
          obtain ⟨w, u⟩ := q
          obtain ⟨k, e⟩ := p
          unfold putF L2.putF
          by_cases z : k = f
          · subst z
            have e2 : w = x := Option.some.inj (hp.1.symm.trans hf')
            subst e2
            rw [if_pos rfl, if_pos rfl]
            exact .cons ⟨hf', ry⟩ t
          · have ne : w ≠ x := fun e2 => z (nmi k f x (by rw [← e2]; exact hp.1) hf')
            rw [if_neg z, if_neg ne]
            exact .cons hp ih
      have e1 : Ext m m H (upd H a (.ins (g.ca c) dx (L2.putF x y vs))) := ext_mut (by rw [hH]; trivial)
      exact ⟨a, c, dx, vs, rfl, hH, by unfold clsOf; dsimp only; rw [e0], cl, na, by rw [len]; exact h.1, h.2 m _ e1 (S1.write (o' := .ins c (putF f dv fs)) ea e0 rfl rfl ⟨dx, _, upd_same, rf2.mono e1, okc0⟩)⟩
    · exact h.elim
  · exact h.elim
theorem st_setf {o e : E} {f : Nat} {eo ex : Expr} {x : Str} {p pos : Pos} (h1 : n.fd f = some x) (ho : PE X eo (rE g T C hx W o)) (he : PE X ex (rE g T C hx W e)) : PS X (.Assign [.Attribute eo x p] ex pos) (rS g T C hx W (.setf o f e)) := by
  refine PS.weak (ps_fld ho he (by cases ex <;> rfl)) fun D σ H ⟨m, env, st, SR_, ER_, h⟩ => ?_
  refine go_S O SR_ ER_ h fun d s1 m1 H1 y e1 S1 E1 r1 z => ?_
  refine go_S O S1 E1 (x_S O e1 z) fun d2 s2 m2 H2 v e2 S2 E2 r2 z => ?_
  obtain ⟨a, c, dx, fs, q1, q2, _, q3, q4, q5, q6⟩ := fld_set O (σ := σ) (env := env) (R := fun H => D.nx σ H) h1 S2 r2 (RD.mono e2 _ _ r1) (setfQ_mono (fun s z m3 H3 e3 S3 => z m3 H3 σ ((e1.trans e2).trans e3) S3 (E2.mono e3)) z)
  exact ⟨a, _, dx, fs, q1, q2, q3, q4, q5, q6⟩
theorem st_seti {o i e : E} {eo ei ex : Expr} {p pos : Pos} (h1 : ixB ei = true) (ho : PE X eo (rE g T C hx W o)) (hi : PE X ei (rE g T C hx W i)) (he : PE X ex (rE g T C hx W e)) : PS X (.Assign [.Subscript eo ei p] ex pos) (rS g T C hx W (.seti o i e)) := by
  have ha : ∀ v, assign (.Subscript eo ei p) X.env v = (do
      let ov ← holding [v] (eval eo X.env)
      let iv ← holding [v, ov] (eval ei X.env)
      standAt p
      holding [v, ov, iv] (setItem ov iv v)
      release [v, ov, iv] []) := by
    intro v
    cases ei <;> first | rfl | cases h1
  refine PS.weak (ps_asg he (pg_sub ho hi (set_any (g := g) (by have := O.ok.hu; omega)) ha) (by cases ex <;> rfl) rfl rfl) fun D σ H ⟨m, env, st, SR_, ER_, h⟩ => ?_
  refine go_S O SR_ ER_ h fun d s1 m1 H1 y e1 S1 E1 r1 z => ?_
  show rE g T C hx W o σ H1 _
  refine go_S O S1 E1 (x_S O e1 z) fun d2 s2 m2 H2 v e2 S2 E2 r2 z => ?_
  refine go_S O S2 E2 (x_S O (e1.trans e2) z) fun d3 s3 m3 H3 w e3 S3 E3 r3 z => ?_
  exact ⟨m3, s3, d2, d3, d, S3, RD.mono e3 _ _ r2, r3, RD.mono (e2.trans e3) _ _ r1, setQ_mono (fun s z m4 H4 e4 S4 => z m4 H4 σ (((e1.trans e2).trans e3).trans e4) S4 (E3.mono e4)) z⟩
theorem st_augn {i : Nat} {op : Op} {e : E} {x : Str} {eop : Operator} {ex : Expr} {p pos : Pos} (h1 : S.N[i]? = some x) (h2 : locB S x = true) (h3 : opB op eop = true) (h4 : adB op = true) (he : PE X ex (rE g T C hx W e)) : PS X (.AugAssign (.Name x p) eop ex pos) (rS g T C hx W (.augn i op e)) := by
  have nx : X.N[i]? = some x := by rw [O.ok.N]; exact h1
  cases op with
  | add =>
    cases opB_ok h3
    refine PS.weak (ps_aug O.ok.nd nx (O.ok.loc h2) he ip_add (.inl (O.fn x))) fun De σ H ⟨m, env, st, SR_, ER_, h⟩ => ?_
    unfold wpS at h
    unfold getV at h
    split at h
    · rename_i d ed
      obtain ⟨v, e2, rv⟩ := ER_.at_ i d ed
      refine ⟨v, e2, ?_⟩
      refine go_S O SR_ ER_ h fun d2 s1 m1 H1 y e1 S1 E1 r1 z => ?_
      split at z
      · cases rd_int rv
        cases rd_int r1
        exact ⟨_, _, rfl, rfl, z m1 H1 _ e1 S1 (E1.set i rfl)⟩
      · contradiction
      · exact z.elim
    · exact h.elim
  | sub =>
    cases opB_ok h3
    refine PS.weak (ps_aug O.ok.nd nx (O.ok.loc h2) he ip_sub (.inl (O.fn x))) fun De σ H ⟨m, env, st, SR_, ER_, h⟩ => ?_
    unfold wpS at h
    unfold getV at h
    split at h
    · rename_i d ed
      obtain ⟨v, e2, rv⟩ := ER_.at_ i d ed
      refine ⟨v, e2, ?_⟩
      refine go_S O SR_ ER_ h fun d2 s1 m1 H1 y e1 S1 E1 r1 z => ?_
      split at z
      · contradiction
      · cases rd_int rv
        cases rd_int r1
        exact ⟨_, _, rfl, rfl, z m1 H1 _ e1 S1 (E1.set i rfl)⟩
      · exact z.elim
    · exact h.elim
  | _ => cases h4
theorem st_augf {o e : E} {f : Nat} {op : Op} {eo ex : Expr} {x : Str} {eop : Operator} {p pos : Pos} (h1 : n.fd f = some x) (h3 : opB op eop = true) (h4 : adB op = true) (ho : PE X eo (rE g T C hx W o)) (he : PE X ex (rE g T C hx W e)) : PS X (.AugAssign (.Attribute eo x p) eop ex pos) (rS g T C hx W (.augf o f op e)) := by
  cases op with
  | add =>
    cases opB_ok h3
    refine PS.weak (ps_fldaug ho he in_add) fun De σ H ⟨m, env, st, SR_, ER_, h⟩ => ?_
    refine go_S O SR_ ER_ h fun d s1 m1 H1 v e1 S1 E1 r1 z => ?_
    obtain ⟨a, c, dx, fs, v', dv, q1, q2, qc, q3, q4, q5, q6, q7⟩ := fld_get O.ok h1 S1 r1 z
    subst q1
    refine ⟨a, _, dx, fs, v', rfl, q2, q3, q4, q5, ?_⟩
    show rE g T C hx W e σ H1 _
    refine go_S O S1 E1 (x_S O e1 q7) fun d2 s2 m2 H2 y e2 S2 E2 r2 z => ?_
    have q6 := RD.mono e2 _ _ q6
    split at z
    · cases rd_int q6
      cases rd_int r2
      refine ⟨_, _, rfl, rfl, ?_⟩
      obtain ⟨a', c', dx', fs', p1, p2, p3, _, _, p5, p6⟩ := fld_set O (σ := σ) (env := env) (R := fun H => De.nx σ H) h1 S2 (RD.mono e2 _ _ r1) (show RD g m2 H2 (.int _) (.int _) from rfl) (setfQ_mono (fun s z m3 H3 e3 S3 => z m3 H3 σ ((e1.trans e2).trans e3) S3 (E2.mono e3)) z.2)
      cases p1
      have ce : c' = c := by
        have z1 := z.1
        rw [p3, qc] at z1
        exact Option.some.inj z1
      subst ce
      exact ⟨dx', fs', p2, p5, p6⟩
    · contradiction
    · exact z.elim
  | sub =>
    cases opB_ok h3
    refine PS.weak (ps_fldaug ho he in_sub) fun De σ H ⟨m, env, st, SR_, ER_, h⟩ => ?_
    refine go_S O SR_ ER_ h fun d s1 m1 H1 v e1 S1 E1 r1 z => ?_
    obtain ⟨a, c, dx, fs, v', dv, q1, q2, qc, q3, q4, q5, q6, q7⟩ := fld_get O.ok h1 S1 r1 z
    subst q1
    refine ⟨a, _, dx, fs, v', rfl, q2, q3, q4, q5, ?_⟩
    show rE g T C hx W e σ H1 _
    refine go_S O S1 E1 (x_S O e1 q7) fun d2 s2 m2 H2 y e2 S2 E2 r2 z => ?_
    have q6 := RD.mono e2 _ _ q6
    split at z
    · contradiction
    · cases rd_int q6
      cases rd_int r2
      refine ⟨_, _, rfl, rfl, ?_⟩
      obtain ⟨a', c', dx', fs', p1, p2, p3, _, _, p5, p6⟩ := fld_set O (σ := σ) (env := env) (R := fun H => De.nx σ H) h1 S2 (RD.mono e2 _ _ r1) (show RD g m2 H2 (.int _) (.int _) from rfl) (setfQ_mono (fun s z m3 H3 e3 S3 => z m3 H3 σ ((e1.trans e2).trans e3) S3 (E2.mono e3)) z.2)
      cases p1
      have ce : c' = c := by
        have z1 := z.1
        rw [p3, qc] at z1
        exact Option.some.inj z1
      subst ce
      exact ⟨dx', fs', p2, p5, p6⟩
    · exact z.elim
  | _ => cases h4
end
end
end Y
set_option linter.all false
set_option maxHeartbeats 4000000
set_option maxRecDepth 100000
namespace Y
open PySem PySem.Spec PyProof.Rows L2 RZ
section
variable {g : G} {T : Tab} {n : Nm} {C : Calls} {L : Nat} {hx : Option Exc} {W : WX} {S : Sta} {X : Cx}
section
variable (O : CxS g T n C L hx W S X)
include O
theorem st_exp {e : E} {ex : Expr} {pos : Pos} (h : noComp ex = true) (he : PE X ex (rE g T C hx W e)) : PS X (.Expr ex pos) (rS g T C hx W (.exp e)) := by
  refine PS.weak (ps_expr he (no_sw O h)) fun D σ H ⟨m, env, st, SR_, ER_, h⟩ => ?_
  exact go_S O SR_ ER_ h fun d s1 m1 H1 v e1 S1 E1 r1 z => z m1 H1 σ e1 S1 E1
theorem st_ret {e : E} {ex : Expr} {pos : Pos} (he : PE X ex (rE g T C hx W e)) : PS X (.Return (some ex) pos) (rS g T C hx W (.ret e)) := by
  refine PS.weak (ps_ret he) fun D σ H ⟨m, env, st, SR_, ER_, h⟩ => ?_
  exact go_S O SR_ ER_ h fun d s1 m1 H1 v e1 S1 E1 r1 z => z m1 H1 v e1 S1 r1
theorem st_retN {pos : Pos} : PS X (.Return none pos) (rS g T C hx W .retN) :=
  PS.weak ps_retN fun D σ H ⟨m, env, st, SR_, ER_, h⟩ => h m H .non (.refl _ _) SR_ rfl
theorem st_brk {pos : Pos} : PS X (.Break pos) (rS g T C hx W .brk) := PS.weak ps_break fun D σ H ⟨m, env, st, SR_, ER_, h⟩ => h m H σ (.refl _ _) SR_ ER_
theorem st_cnt {pos : Pos} : PS X (.Continue pos) (rS g T C hx W .cnt) := PS.weak ps_continue fun D σ H ⟨m, env, st, SR_, ER_, h⟩ => h m H σ (.refl _ _) SR_ ER_
theorem st_pas {pos : Pos} : PS X (.Pass pos) (rS g T C hx W .pas) := PS.weak ps_pass fun D σ H ⟨m, env, st, SR_, ER_, h⟩ => h m H σ (.refl _ _) SR_ ER_
theorem b_ext {b : B} {env : Env} {st : Store} {m m' : Mp} {H H' : Hp} {De : Ends} (e : Ext m m' H H') (h : wpB T C hx b env st (kEnd g m H W De)) : wpB T C hx b env st (kEnd g m' H' W De) := wpB_mono O.ok.MC b hx env st _ _ (kEnd_ext e) h
theorem go_ST {e : E} {σ : L2.St} {H : Hp} {m : Mp} {env : Env} {st : Store} {Q : Bool → Hp → Prop} {D : Ends} {R : Bool → Store → Prop} (SR_ : SR g m H st) (ER_ : ER g m H σ env) (h : wpT T C hx e env st R fun x s => (kEnd g m H W D).xc x env s)
    (k : ∀ b s m' H', Ext m m' H H' → SR g m' H' s → ER g m' H' σ env → R b s → Q b H') : rT g T C hx W e σ H Q :=
  go_T O.ok SR_ ER_ (wpT_mono O.ok.MC e env st _ _ _ _ (fun _ _ z => z) (fun _ _ z => xk O ER_ z) h) k
theorem st_if {c : E} {a b : B} {ec : Expr} {sa sb : List Stmt} {pos : Pos} (hc : PT X ec (rT g T C hx W c)) (ha : PSs X sa (rB g T C hx W a)) (hb : PSs X sb (rB g T C hx W b)) : PS X (.If ec sa sb pos) (rS g T C hx W (.ifS c a b)) := by
  refine PS.weak (ps_if hc ha hb) fun D σ H ⟨m, env, st, SR_, ER_, h⟩ => ?_
  refine go_ST O SR_ ER_ h fun k s1 m1 H1 e1 S1 E1 z => ?_
  cases k with
  | true =>
    rw [if_pos rfl] at z ⊢
    exact ⟨m1, env, s1, S1, E1, b_ext O e1 z⟩
  | false =>
    rw [if_neg Bool.false_ne_true] at z ⊢
    exact ⟨m1, env, s1, S1, E1, b_ext O e1 z⟩
theorem st_while {c : E} {b : B} {ec : Expr} {body : List Stmt} {pos : Pos} (hc : PT X ec (rT g T C hx W c)) (hb : PSs X body (rB g T C hx W b)) : PS X (.While ec body [] pos) (rS g T C hx W (.whl c b)) := by
  by_cases hn : hx = none
  · refine PS.weak (ps_while (O.own hn) hc hb) fun D σ H ⟨m, env, st, SR_, ER_, _, k, h⟩ => ?_
    refine ⟨fun k σ' H' => ∃ m' env' st', Ext m m' H H' ∧ SR g m' H' st' ∧ ER g m' H' σ' env' ∧ whlN (fun e s P => wpT T C hx c e s P fun x s1 => (kEnd g m H W D).xc x e s1) (fun e s k' => wpB T C hx b e s k') (kEnd g m H W D) k env' st', ⟨k, m, env, st, .refl _ _, SR_, ER_, h⟩, ?_⟩
    rintro k σ' H' ⟨m1, env1, st1, e1, S1, E1, h1⟩
    cases k with
    | zero => exact h1.elim
    | succ k =>
      unfold whlN at h1
      have h1 := wpT_mono O.ok.MC c env1 st1 _ _ _ _ (fun _ _ z => z) (fun _ _ z => (kEnd_ext e1).xc _ _ _ z) h1
      refine go_ST O S1 E1 h1 fun t s2 m2 H2 e2 S2 E2 z => ?_
      cases t with
      | true =>
        rw [if_pos rfl] at z ⊢
        refine ⟨fun σ' H' => ∃ m' env' st', Ext m m' H H' ∧ SR g m' H' st' ∧ ER g m' H' σ' env' ∧ whlN (fun e s P => wpT T C hx c e s P fun x s1 => (kEnd g m H W D).xc x e s1) (fun e s k' => wpB T C hx b e s k') (kEnd g m H W D) k env' st', fun σ' H' z => ⟨k, Nat.lt_succ_self k, z⟩, m2, env1, s2, S2, E2, ?_⟩
        have e12 := e1.trans e2
        refine wpB_mono O.ok.MC b hx env1 s2 _ _ ?_ z
        exact ⟨fun e s z m3 H3 σ3 e3 S3 E3 => ⟨m3, e, s, e12.trans e3, S3, E3, z⟩, (kEnd_ext (W := W) e12).rt, fun e s z m3 H3 σ3 e3 => z m3 H3 σ3 (e12.trans e3), fun e s z m3 H3 σ3 e3 S3 E3 => ⟨m3, e, s, e12.trans e3, S3, E3, z⟩, (kEnd_ext e12).xc⟩
      | false =>
        rw [if_neg Bool.false_ne_true] at z ⊢
        exact z m2 H2 σ' (e1.trans e2) S2 E2
  · exact ps_false fun D σ H ⟨m, env, st, _, _, h, _⟩ => hn h
theorem st_for {tg : Tg} {it : E} {b : B} {t iter : Expr} {body : List Stmt} {pos : Pos} (h1 : ckTg S none tg t = true) (h2 : noSet iter = true) (hi : PI X t iter (rI g T C hx W it)) (hb : PSs X body (rB g T C hx W b)) : PS X (.For t iter body [] pos) (rS g T C hx W (.forS tg it b)) := by
  by_cases hn : hx = none
  · refine PS.weak (ps_for (O.own hn) (O.ok.calm hn) hi (g_asg O h1 fun _ _ => hn) hb (noSet_fold h2)) fun D σ H ⟨m, env, st, SR_, ER_, _, h⟩ => ?_
    refine ⟨m, env, st, SR_, ER_, wpI_mono O.ok.MC it env st _ _ _ _ (fun j s1 ⟨k, hc⟩ m1 H1 J0 e1 S1 jr => ?_) (fun _ _ z => xk O ER_ z) h⟩
    let Inv0 : Nat → Nat → L2.St → Hp → Prop := fun i k σ' H' => ∃ m' env' st', Ext m1 m' H1 H' ∧ SR g m' H' st' ∧ ER g m' H' σ' env' ∧ forN j tg (fun e s k' => wpB T C hx b e s k') (kEnd g m H W D) k i env' st'
    refine ⟨Inv0, ⟨k, m1, env, s1, .refl _ _, S1, ER_.mono e1, hc⟩, ?_⟩
    rintro i k σ' H' ⟨m2, env2, st2, e2, S2, E2, h2⟩
    cases k with
    | zero => exact h2.elim
    | succ k =>
      unfold forN at h2
      obtain ⟨j1, j2⟩ := jr m2 H' st2 i e2 S2
      split at h2
      · exact h2.elim
      · rename_i ea
        exact .inl ⟨j1 ea, h2 m2 H' σ' (e1.trans e2) S2 E2⟩
      · rename_i d ea
        obtain ⟨go, jy⟩ := j2 d ea
        split at h2
        · exact h2.elim
        · rename_i env' eb
          refine .inr ⟨go, Inv0 (i + 1) k, fun σ' H' z => ⟨k, Nat.lt_succ_self k, z⟩, fun x H3 yl => ?_⟩
          obtain ⟨e3, S3, rx⟩ := jy x H3 yl
          refine ⟨m2, env2, env', d, E2.mono e3, rx, eb, fun σ3 E3 _ => ⟨m2, env', st2, S3, E3, ?_⟩⟩
          have e13 := e1.trans (e2.trans e3)
          refine wpB_mono O.ok.MC b hx env' st2 _ _ ?_ h2
          exact ⟨fun e s z m4 H4 σ4 e4 S4 E4 => ⟨m4, e, s, (e2.trans e3).trans e4, S4, E4, z⟩, (kEnd_ext (W := W) e13).rt, fun e s z m4 H4 σ4 e4 => z m4 H4 σ4 (e13.trans e4), fun e s z m4 H4 σ4 e4 S4 E4 => ⟨m4, e, s, (e2.trans e3).trans e4, S4, E4, z⟩, (kEnd_ext e13).xc⟩
  · exact ps_false fun D σ H ⟨m, env, st, _, _, h, _⟩ => hn h
theorem pmk_own0 {A0 : Addr} {bmB : List Value} {B0 newId initId : String} {x : Str} {p pos : Pos} (F : ExcBaseFacts B0 newId initId bmB) (q : PySem.W.excIn X.K A0 bmB newId = true) (gC : X.mg x = some (.ref A0)) (kC : PySem.W.keepIn X.K (.ref A0) = true) (r : Raises X (.ref A0)) (hg : Gl X x)
    (hdb : (x == ("__debug__" : Str)) = false) : PMk X (.Call (.Name x p) [] [] pos) (fun _ H Q => Q (.ref A0) none H) := by
  intro pins s σ H Q I h
  refine wpAny_Call_Name_kw (ld_glob I hg gC ?_ hdb)
  refine PySem.W.callWith_K0 I.kIn kC ?_
  show wpAny _ _ (call (.ref A0) []) _ _ _
  obtain ⟨bm, N, nm, qn, bs, hdct, sn, sub, ab, col, dd, k0, k1, k2, k3, k5, mN, hC, hN, hni, T⟩ := exc_obj I.kIn q
  refine wpAny_call_exc_subT F T hC hN hni (fun h' e hm => ?_) (Nat.zero_le _)
  exact mk_of I hm r h (I.hok.gone hm.new)
theorem st_raise0 {c : Nat} {x : Str} {p pos pos' : Pos} (h1 : n.ex c = some x) (h2 : gloB S x = true) (h3 : okN x = true) : PS X (.Raise (some (.Call (.Name x p) [] [] pos)) none pos') (rS g T C hx W (.rais c .nil)) := by
  by_cases hn : hx = none ∧ T.exf c = some none
  · obtain ⟨⟨bm, F, q⟩, k1, k2, k3⟩ := O.ok.top.ex0 c x h1 hn.2
    rw [← O.ok.K] at q k1 k2 k3
    refine PS.weak (ps_raise (O.ok.calm hn.1) O.ok.tk (pmk_own0 O F q (O.ok.top.exg c x h1) k1 (raises_own k2 k3) (O.ok.gl h2) (okN_1 h3))) fun D σ H ⟨m, env, st, SR_, ER_, _, h⟩ => ?_
    rw [hn.2] at h
    exact h m H σ _ none (.refl _ _) SR_ ER_ ⟨rfl, by rw [O.ok.top.oke, h1]; rfl, .inl ⟨rfl, rfl⟩⟩
  · refine ps_false fun D σ H ⟨m, env, st, _, _, h, h'⟩ => hn ⟨h, ?_⟩
    split at h'
    · assumption
    · rename_i e; cases e
    · exact h'.elim
theorem st_raise1 {c : Nat} {e : E} {ea : Expr} {x : Str} {p pos pos' : Pos} (h1 : n.ex c = some x) (h2 : gloB S x = true) (h3 : okN x = true) (h4 : noStar ea = true) (he : PE X ea (rE g T C hx W e)) : PS X (.Raise (some (.Call (.Name x p) [ea] [] pos)) none pos') (rS g T C hx W (.rais c (.cons e .nil))) := by
  by_cases hn : hx = none ∧ ∃ f, T.exf c = some (some f)
  · obtain ⟨hn, f, ef⟩ := hn
    obtain ⟨y, hy⟩ := Option.isSome_iff_exists.mp (O.ok.exi.fd c x f h1 ef)
    obtain ⟨T0, fI, fd, ps, i1, i2, F, b⟩ := O.ok.exi.ok c x f y h1 ef hy
    rw [← O.ok.K] at T0 i1 i2 F b
    have hL := O.ok.hL
    have hr : Room (1 + 1) X.A := (O.ok.room hn).mono (by omega)
    refine PS.weak (ps_raise (O.ok.calm hn) O.ok.tk (pmk_oex T0 i1 i2 F hr b .nil (fun pins σ H s e s' I c => passes_call (E := fun _ _ _ => False) O.ok.tk (fun _ _ _ _ z => z.elim) pins σ H s e s' I c) (O.ok.gl h2) (O.ok.top.exg c x h1) (a_cons O.ok h4 he (a_nil O.ok)) (okN_1 h3) (star_cons h4) rfl)) fun D σ H ⟨m, env, st, SR_, ER_, _, h⟩ => ?_
    rw [ef] at h
    refine go_A O.ok SR_ ER_ (R := fun ds s1 => ∃ d, ds = [d] ∧ (kEnd g m H W D).xc ⟨c, [(f, d)]⟩ env s1) (wpE_mono O.ok.MC e env st _ _ _ _ (fun d s z => ⟨d, rfl, z⟩) (fun _ _ z => xk O ER_ z) h) fun ds s1 m1 H1 vs e1 S1 E1 r1 ⟨d, ex, z⟩ => ?_
    subst ex
    obtain ⟨v, rfl, rv⟩ := r1.un1
    refine ⟨(by show 1 ≤ 1000; decide), fun a na => ⟨a, v, rfl, upd_same, fun dx nd ne => ⟨rfl, dx, [(y, v)], upd_same, ?_, ?_, ?_⟩⟩⟩
    · rw [upd_ne ne, upd_same]
    · rw [upd_ne ne] at nd
      exact nd
    · rw [upd_ne ne] at nd
      have eH : upd (del (upd (upd (upd H1 a (exo a (g.ca c) none)) dx (exd dx [(y, v)])) a (exo a (g.ca c) (some dx))) a) dx (.xd [(y, v)]) = upd H1 dx (.xd [(y, v)]) := by
        funext q
        by_cases z1 : q = dx
        · subst z1
          rw [upd_same, upd_same]
        · rw [upd_ne z1, upd_ne z1]
          by_cases z2 : q = a
          · subst z2
            rw [del_same, na]
          · rw [del_ne z2, upd_ne z2, upd_ne z1, upd_ne z2]
      rw [eH]
      have e2 : Ext m1 m1 H1 (upd H1 dx (.xd [(y, v)])) := ext_new nd fun _ _ z => z
      exact z m1 _ σ _ (some dx) (e1.trans e2) (S1.fresh nd) (E1.mono e2) ⟨rfl, by rw [O.ok.top.oke, h1]; rfl, .inr ⟨dx, _, rfl, upd_same, .cons ⟨by rw [O.ok.top.nm]; exact hy, RD.mono e2 _ _ rv⟩ .nil⟩⟩
  · refine ps_false fun D σ H ⟨m, env, st, _, _, h, h'⟩ => hn ⟨h, ?_⟩
    split at h'
    · rename_i e; cases e
    · exact ⟨_, by assumption⟩
    · exact h'.elim
end
end
end Y
set_option linter.all false
set_option maxHeartbeats 4000000
set_option maxRecDepth 100000
namespace Y
open PySem PySem.Spec PyProof.Rows L2 RZ
section
variable {g : G} {T : Tab} {n : Nm} {C : Calls} {L : Nat} {hx : Option Exc} {W : WX} {S : Sta} {X : Cx}
def hsOf (g : G) (T : Tab) (C : Calls) : Hs → List (Value × (Addr → Value → Option Addr → TS))
  | .nil => []
  | .cons c _ b hs => (.ref (g.ca c), fun _ _ _ D σ H => ∃ x : Exc, rB g T C (some x) (fun _ _ _ _ => False) b D σ H) :: hsOf g T C hs
section
variable (O : CxS g T n C L hx W S X)
include O
theorem su_ok {a : Addr} {pn : List (Addr × Obj)} {x : Exc} : CxS g T n C L (some x) (fun _ _ _ _ => False) S (X.suite a pn) where
  ok := {
    K := O.ok.K
    N := O.ok.N
    nd := O.ok.nd
    sc := O.ok.sc
    F := O.ok.F
    MC := O.ok.MC
    tk := fun u s' ⟨a, B, sI, pins, σ, H, cls, d, e, I, nb, up, sky, na, os, ag, w⟩ => w.elim
    hu := by
      have h := O.ok.hu
      exact h
    calm := fun h => nomatch h
    room := fun h => nomatch h
    top := O.ok.top
    cal := O.ok.cal
    hL := O.ok.hL
    exi := O.ok.exi }
  fn := O.fn
  kind := O.kind
  own := fun h => nomatch h
  stk := O.stk
  frm := O.frm
theorem tr_ok {W' : WX} {pn : List (Addr × Obj)} {xe : Value → Shared → Prop} (tk : Takes (X.tr pn xe) W') (po : PassesOwn (model X.prog X.w) X.A X.env xe) : CxS g T n C L hx W' S (X.tr pn xe) where
  ok := {
    K := O.ok.K
    N := O.ok.N
    nd := O.ok.nd
    sc := O.ok.sc
    F := O.ok.F
    MC := O.ok.MC
    tk := tk
    hu := O.ok.hu
    calm := O.ok.calm
    room := O.ok.room
    top := O.ok.top
    cal := O.ok.cal
    hL := O.ok.hL
    exi := O.ok.exi }
  fn := O.fn
  kind := O.kind
  own := fun _ => po
  stk := O.stk
  frm := O.frm
theorem many_of {m : Mp} {H : Hp} {De : Ends} {x : Exc} {cls : Value} {dx : Option Addr} : ∀ {hs : Hs} {hds : List ExceptHandler} {env : Env} {st : Store} {m' : Mp} {H' : Hp} {σ' : L2.St}, ckH n hs S hds = true → Ext m m' H H' → SR g m' H' st → ER g m' H' σ' env → RX g m' H' x cls dx →
    wpH T C hs x env st (kEnd g m H W De) → wMany X.K W De (hsOf g T C hs) cls dx σ' H'
  | .nil, hds, env, st, m', H', σ', hc, e, S1, E1, R1, h => h m' H' σ' cls dx e S1 E1 R1
  | .cons c nm b hs, hds, env, st, m', H', σ', hc, e, S1, E1, R1, h => by
    unfold ckH at hc
    split at hc
    · obtain ⟨hc, k6⟩ := and2 hc
      obtain ⟨hc, k5⟩ := and2 hc
      obtain ⟨hc, k4⟩ := and2 hc
      obtain ⟨hc, k3⟩ := and2 hc
      obtain ⟨k1, k2⟩ := and2 hc
      have k1 := of_decide_eq_true k1
      have r1 := R1.1
      have r2 := R1.2.1
      rw [O.ok.top.oke] at r2
      obtain ⟨y, hy⟩ := Option.isSome_iff_exists.mp r2
      have ex := O.ok.top.exm x.cls c y _ hy k1
      have enm : nm = none := by
        cases nm with
        | none => rfl
        | some i => cases k4
      subst enm
      unfold wpH at h
      refine ⟨T.sub x.cls c, by rw [O.ok.K, r1]; exact ex, fun hb a na => ?_, fun hb => ?_⟩
      · rw [if_pos hb] at h
        refine ⟨x, m', env, st, S1, E1, wpB_mono O.ok.MC b _ env st _ _ ?_ h⟩
        exact ⟨fun e' s z m2 H2 σ2 e2 S2 E2 => z m2 H2 σ2 (e.trans e2) S2 E2, fun d s z m2 H2 v e2 S2 r => z m2 H2 v (e.trans e2) S2 r, fun _ _ z => z.elim, fun _ _ z => z.elim, fun _ _ _ z => z.elim⟩
      · rw [if_neg (by rw [hb]; exact Bool.false_ne_true)] at h
        exact many_of k6 e S1 E1 R1 h
    · cases hc
theorem st_try {b : B} {hs : Hs} {body : List Stmt} {h0 : ExceptHandler} {hds : List ExceptHandler} {pos : Pos} (hc : ckH n hs S (h0 :: hds) = true)
    (hb : ∀ {W' : WX} {X' : Cx}, CxS g T n C L hx W' S X' → PSs X' body (rB g T C hx W' b)) (hh : HdsOk X (h0 :: hds) (hsOf g T C hs)) : PS X (.Try body (h0 :: hds) [] [] pos) (rS g T C hx W (.tryS b hs)) := by
  by_cases hn : hx = none
  · refine PS.weak (ps_try_many (tb := fun W' => rB g T C hx W' b) O.stk O.frm O.ok.tk (fun W' pn xe tk po => hb (tr_ok O tk po)) hh) fun D σ H ⟨m, env, st, SR_, ER_, _, h⟩ => ?_
    refine ⟨m, env, st, SR_, ER_, wpB_mono O.ok.MC b hx env st _ _ ?_ h⟩
    exact ⟨fun _ _ z => z, fun _ _ z => z, fun _ _ z => z, fun _ _ z => z, fun x e s z m' H' σ' cls dx e1 S1 E1 R1 => many_of O hc e1 S1 E1 R1 z⟩
  · exact ps_false fun D σ H ⟨m, env, st, _, _, h, _⟩ => hn h
end
theorem ckR_nil {S : Sta} {args : List Expr} (h : ckR n .nil S args = true) : args = [] := by
  cases args with
  | nil => rfl
  | cons a r => cases h
theorem ckR_one {S : Sta} {e : E} {args : List Expr} (h : ckR n (.cons e .nil) S args = true) : ∃ ea, args = [ea] ∧ ckE n e S ea = true := by
  cases args with
  | nil => cases h
  | cons a r =>
    cases r with
    | nil => exact ⟨a, rfl, h⟩
    | cons _ _ => cases h
mutual
theorem snd_S : ∀ (s : Y.S) {hx : Option Exc} {W : WX} {S : Sta} {X : Cx} {x : Stmt}, CxS g T n C L hx W S X → ckS n s S x = true → PS X x (rS g T C hx W s)
  | .asg tg e, hx, W, S, X, x, O, h => by
    unfold ckS at h
    split at h
    · obtain ⟨h, h3⟩ := and2 h
      obtain ⟨h1, h2⟩ := and2 h
      exact st_asg O h1 h2 h3
    · cases h
  | .asg2 i j a b, hx, W, S, X, x, O, h => by
    unfold ckS at h
    split at h
    · obtain ⟨h, k12⟩ := and2 h
      obtain ⟨h, k11⟩ := and2 h
      obtain ⟨h, k10⟩ := and2 h
      obtain ⟨h, k9⟩ := and2 h
      obtain ⟨h, k8⟩ := and2 h
      obtain ⟨h, k7⟩ := and2 h
      obtain ⟨h, k6⟩ := and2 h
      obtain ⟨h, k5⟩ := and2 h
      obtain ⟨h, k4⟩ := and2 h
      obtain ⟨h, k3⟩ := and2 h
      obtain ⟨k1, k2⟩ := and2 h
      rw [Bool.not_eq_true'] at k7 k9 k10
      exact st_asg2 O (of_decide_eq_true k1) (of_decide_eq_true k2) (of_decide_eq_true k3) k4 k5 k6 k7 k8 k9 k10 (snd_E a O.ok k11) (snd_E b O.ok k12)
    · cases h
  | .setf o f e, hx, W, S, X, x, O, h => by
    unfold ckS at h
    split at h
    · obtain ⟨h, h3⟩ := and2 h
      obtain ⟨h1, h2⟩ := and2 h
      exact st_setf O (of_decide_eq_true h1) (snd_E o O.ok h2) (snd_E e O.ok h3)
    · cases h
  | .seti o i e, hx, W, S, X, x, O, h => by
    unfold ckS at h
    split at h
    · obtain ⟨h, h4⟩ := and2 h
      obtain ⟨h, h3⟩ := and2 h
      obtain ⟨h1, h2⟩ := and2 h
      exact st_seti O h1 (snd_E o O.ok h2) (snd_E i O.ok h3) (snd_E e O.ok h4)
    · cases h
  | .augn i op e, hx, W, S, X, x, O, h => by
    unfold ckS at h
    split at h
    · obtain ⟨h, h5⟩ := and2 h
      obtain ⟨h, h4⟩ := and2 h
      obtain ⟨h, h3⟩ := and2 h
      obtain ⟨h1, h2⟩ := and2 h
      exact st_augn O (of_decide_eq_true h1) h2 h3 h4 (snd_E e O.ok h5)
    · cases h
  | .augf o f op e, hx, W, S, X, x, O, h => by
    unfold ckS at h
    split at h
    · obtain ⟨h, h5⟩ := and2 h
      obtain ⟨h, h4⟩ := and2 h
      obtain ⟨h, h3⟩ := and2 h
      obtain ⟨h1, h2⟩ := and2 h
      exact st_augf O (of_decide_eq_true h1) h2 h3 (snd_E o O.ok h4) (snd_E e O.ok h5)
    · cases h
  | .exp e, hx, W, S, X, x, O, h => by
    unfold ckS at h
    split at h
    · obtain ⟨h1, h2⟩ := and2 h
      exact st_exp O h1 (snd_E e O.ok h2)
    · cases h
  | .ret e, hx, W, S, X, x, O, h => by
    unfold ckS at h
    split at h
    · exact st_ret O (snd_E e O.ok h)
    · cases h
  | .retN, hx, W, S, X, x, O, h => by
    unfold ckS at h
    split at h
    · exact st_retN O
    · cases h
  | .ifS c a b, hx, W, S, X, x, O, h => by
    unfold ckS at h
    split at h
    · obtain ⟨h, h3⟩ := and2 h
      obtain ⟨h1, h2⟩ := and2 h
      exact st_if O (snd_T c O.ok h1).1 (snd_B a O h2) (snd_B b O h3)
    · cases h
  | .forS tg it b, hx, W, S, X, x, O, h => by
    unfold ckS at h
    split at h
    · obtain ⟨h, h4⟩ := and2 h
      obtain ⟨h, h3⟩ := and2 h
      obtain ⟨h1, h2⟩ := and2 h
      exact st_for O h1 h3 (snd_I it O.ok h2) (snd_B b O h4)
    · cases h
  | .whl c b, hx, W, S, X, x, O, h => by
    unfold ckS at h
    split at h
    · obtain ⟨h1, h2⟩ := and2 h
      exact st_while O (snd_T c O.ok h1).1 (snd_B b O h2)
    · cases h
  | .brk, hx, W, S, X, x, O, h => by
    unfold ckS at h
    split at h
    · exact st_brk O
    · cases h
  | .cnt, hx, W, S, X, x, O, h => by
    unfold ckS at h
    split at h
    · exact st_cnt O
    · cases h
  | .pas, hx, W, S, X, x, O, h => by
    unfold ckS at h
    split at h
    · exact st_pas O
    · cases h
  | .rais c .nil, hx, W, S, X, x, O, h => by
    unfold ckS at h
    split at h
    · obtain ⟨h, h4⟩ := and2 h
      obtain ⟨h, h3⟩ := and2 h
      obtain ⟨h, h2⟩ := and2 h
      obtain ⟨h1, h0⟩ := and2 h
      obtain rfl := ckR_nil h4
      exact st_raise0 O (of_decide_eq_true h1) h0 h2
    · cases h
  | .rais c (.cons e .nil), hx, W, S, X, x, O, h => by
    unfold ckS at h
    split at h
    · obtain ⟨h, h4⟩ := and2 h
      obtain ⟨h, h3⟩ := and2 h
      obtain ⟨h, h2⟩ := and2 h
      obtain ⟨h1, h0⟩ := and2 h
      obtain ⟨ea, rfl, h5⟩ := ckR_one h4
      exact st_raise1 O (of_decide_eq_true h1) h0 h2 (and2 h3).1 (snd_E e O.ok h5)
    · cases h
  | .rais c (.cons _ (.cons _ _)), hx, W, S, X, x, O, h => ps_false fun D σ H ⟨m, env, st, _, _, _, h'⟩ => by
      split at h'
      · rename_i q; cases q
      · rename_i q; cases q
      · exact h'
  | .tryS b hs, hx, W, S, X, x, O, h => by
    unfold ckS at h
    split at h
    · obtain ⟨h1, h2⟩ := and2 h
      exact st_try O h2 (fun O' => snd_B b O' h1) (snd_H hs O h2)
    · cases h
  | .bad, hx, W, S, X, x, O, h => ps_false fun D σ H ⟨m, env, st, _, _, h'⟩ => h'
  | .del _ _, hx, W, S, X, x, O, h => by
    unfold ckS at h
    cases h
theorem snd_B : ∀ (b : B) {hx : Option Exc} {W : WX} {S : Sta} {X : Cx} {l : List Stmt}, CxS g T n C L hx W S X → ckB n b S l = true → PSs X l (rB g T C hx W b)
  | .nil, hx, W, S, X, l, O, h => by
    unfold ckB at h
    split at h
    · exact PSs.weak pss_nil fun D σ H ⟨m, env, st, S1, E1, h⟩ => h m H σ (.refl _ _) S1 E1
    · cases h
  | .cons s b, hx, W, S, X, l, O, h => by
    unfold ckB at h
    split at h
    · obtain ⟨h1, h2⟩ := and2 h
      refine PSs.weak (pss_cons (snd_S s O h1) (snd_B b O h2)) fun D σ H ⟨m, env, st, S1, E1, h⟩ => ?_
      unfold wpB at h
      refine ⟨m, env, st, S1, E1, wpS_mono O.ok.MC s hx env st _ _ ?_ h⟩
      exact ⟨fun e s' z m2 H2 σ2 e2 S2 E2 => ⟨m2, e, s', S2, E2, wpB_mono O.ok.MC b hx e s' _ _ (kEnd_ext e2) z⟩, fun _ _ z => z, fun _ _ z => z, fun _ _ z => z, fun _ _ _ z => z⟩
    · cases h
theorem snd_H : ∀ (hs : Hs) {hx : Option Exc} {W : WX} {S : Sta} {X : Cx} {l : List ExceptHandler}, CxS g T n C L hx W S X → ckH n hs S l = true → HdsOk X l (hsOf g T C hs)
  | .nil, hx, W, S, X, l, O, h => by
    unfold ckH at h
    split at h
    · exact .nil
    · cases h
  | .cons c nm b hs, hx, W, S, X, l, O, h => by
    unfold ckH at h
    split at h
    · obtain ⟨h, k6⟩ := and2 h
      obtain ⟨h, k5⟩ := and2 h
      obtain ⟨h, k4⟩ := and2 h
      obtain ⟨h, k3⟩ := and2 h
      obtain ⟨k1, k2⟩ := and2 h
      refine .cons ⟨O.ok.gl k2, okN_1 k3, .inl (O.ok.top.exg c _ (of_decide_eq_true k1))⟩ (fun a oe cls d pn _ _ => ?_) (snd_H hs O k6)
      exact ⟨fun pins s σ H D I ⟨x, q⟩ => (snd_B b (su_ok O (x := x)) k5).run pins s σ H D I q⟩
    · cases h
end
end
end Y
set_option linter.all false
set_option maxHeartbeats 4000000
set_option maxRecDepth 100000
namespace Y
open PySem PySem.Spec PyProof.Rows L2 RZ
def DefAt (g : G) (n : Nm) (f : Nat) (fn : Fn) : Prop := ∃ (x qual : Str) (params : Arguments) (body : List Stmt) (scope : Scope) (N ps : List Str) (dvs : List V) (kws : List (Str × V)) (fd : FuncData),
  FunD g.K x qual params body scope dvs kws (g.fa f) fd ∧ FnScope N ps scope ∧ ps.length = fn.np ∧ N.length = fn.ns ∧ ckB n fn.body ⟨N, scope⟩ body = true ∧ Binds g.K fd ps [] ∧
  (n.df f ≠ [] → ∃ ds dvs, Vals dvs ds ∧ Binds g.K fd ps ds ∧ ∀ m H, RDs g m H (n.df f) dvs)
structure TopOk (g : G) (T : Tab) (n : Nm) (P : Program) (w : World) (mg : Str → Option Value) (base : Heap) : Prop where
  top : TopAt g T n mg
  vf : Vf g T w
  exi : ExiAt g T n P w mg base
  df : ∀ f fn, T.fn f = some fn → DefAt g n f fn
section
variable {g : G} {T : Tab} {n : Nm} {P : Program} {w : World} {mg : Str → Option Value} {base : Heap}
theorem er_start {m : Mp} {H : Hp} : ∀ {ds : List D} {vs : List V} {a b : Nat}, RDs g m H ds vs → a = b → ER g m H (vs.map some ++ List.replicate a none) (ds.map some ++ List.replicate b none) := fun {ds vs a b} r e => by
  subst e
  refine ⟨by simp [r.length], fun i d q => ?_⟩
  by_cases l : i < ds.length
  · rw [List.getElem?_append_left (by simpa using l), List.getElem?_map] at q
    obtain ⟨d', h1, h2⟩ := Option.map_eq_some_iff.mp q
    cases h2
    obtain ⟨v, h3, h4⟩ := r.get h1
    refine ⟨v, ?_, h4⟩
    rw [List.getElem?_append_left (by simpa [r.length] using l), List.getElem?_map, h3]
    rfl
  · rw [List.getElem?_append_right (by simpa using l)] at q
    have q2 := List.mem_of_getElem? q
    rw [List.mem_replicate] at q2
    cases q2.2
theorem fn_ok (K : TopOk g T n P w mg base) {k f : Nat} (ih : ∀ (f : Nat) (ds : List D) (st : Store) (Q : QE) (E0 : QX), Call T k f ds st Q E0 → CalAt g n P w mg base (2 * k + 2) (Call T k) f) {fn : Fn} (ef : T.fn f = some fn)
    {x qual : Str} {params : Arguments} {body : List Stmt} {scope : Scope} {N ps : List Str} {dvs : List V} {kws : List (Str × V)} {fd : FuncData} (F : FunD g.K x qual params body scope dvs kws (g.fa f) fd) (Sc : FnScope N ps scope) (hp : ps.length = fn.np) (hN : N.length = fn.ns)
    (hc : ckB n fn.body ⟨N, scope⟩ body = true) : FnOk P w g.K mg base (L2.CX P w) ((2 * k + 3) + 1) (g.fa f) fd ps (spF g (Call T (k + 1)) f) := by
  refine F.ok Sc (fun vs H Q E z => ?_) fun cdv A outer s H vs Q E hr z => ?_
  · obtain ⟨m, st, ds, S1, rd, z⟩ := z
    unfold Call at z
    rw [ef] at z
    rw [rd.length, z.1, hp]
  · obtain ⟨m, st, ds, S1, rd, z⟩ := z
    unfold Call at z
    rw [ef] at z
    have O : CxS g T n (Call T k) (2 * k + 2) none (fun cls d _ H => E cls d H) ⟨N, scope⟩ (cxOf (L2.CX P w) P w g.K mg base N qual scope (g.fa f) cdv A outer s H E) := {
      ok := {
        K := rfl
        N := rfl
        nd := Sc.nd
        sc := rfl
        F := K.vf
        MC := Call_mono T k
        tk := takes_of rfl rfl rfl rfl
        hu := hr.units
        calm := fun _ => rfl
        room := fun _ => hr
        top := K.top
        cal := ih
        hL := by omega
        exi := K.exi }
      fn := fun _ => rfl
      kind := Sc.kind
      own := fun _ => passes_of rfl
      stk := rfl
      frm := rfl }
    refine ⟨rB g T (Call T k) none (fun cls d _ H => E cls d H) fn.body, snd_B fn.body O hc, m, _, st, S1, er_start (b := fn.ns - fn.np) rd (by rw [hN, rd.length, z.1]), wpB_mono (Call_mono T k) _ _ _ _ _ _ ?_ z.2⟩
    exact ⟨fun e s' z m2 H2 σ2 e2 S2 _ => z m2 H2 .non e2 S2 rfl, fun d s' z m2 H2 v e2 S2 r => z m2 H2 v e2 S2 r, fun _ _ z => z.elim, fun _ _ z => z.elim, fun x e s' z m2 H2 σ2 c d e2 S2 _ r => z m2 H2 c d e2 S2 r⟩
theorem all_ok (K : TopOk g T n P w mg base) : ∀ (k f : Nat) (ds : List D) (st : Store) (Q : QE) (E0 : QX), Call T k f ds st Q E0 → CalAt g n P w mg base (2 * k + 2) (Call T k) f
  | 0, _, _, _, _, _, h => h.elim
  | k + 1, f, ds, st, Q, E0, h => by
    have ih := all_ok K k
    cases ef : T.fn f with
    | none =>
      unfold Call at h
      rw [ef] at h
      exact h.elim
    | some fn =>
      obtain ⟨x, qual, params, body, scope, N, ps, dvs, kws, fd, F, Sc, hp, hN, hc, b, b2⟩ := K.df f fn ef
      refine ⟨fd, ps, ?_, b, b2⟩
      exact fn_ok K ih ef F Sc hp hN hc
def st0 (ns : List Int) : Store := [.fro (ns.map D.int)]
theorem rds_ints {m : Mp} {H : Hp} : ∀ ns : List Int, RDs g m H (ns.map D.int) (ns.map V.int)
  | [] => rfl
  | _ :: ns => .cons rfl (rds_ints ns)
theorem sp_law {k f : Nat} {H : Hp} {a : Addr} {ns : List Int} (ho : Only H) (hs : SqL g.K H a (ns.map V.int)) (h : Call T k f [.ref 0] (st0 ns) (fun d _ => d = .bl true) fun _ _ => False) : spF g (Call T k) f [.ref a] H (fun v _ => v = .bl true) fun _ _ _ => False := by
  refine ⟨fun h => if h = 0 then some a else none, st0 ns, [.ref 0], ⟨fun h o q => ?_, fun h l => ?_, fun h h' b e e' _ _ => ?_⟩, .one ⟨a, rfl, rfl⟩, Call_mono T k _ _ _ _ _ _ _ (fun d s z m' H' v e S1 r => ?_) (fun _ _ z => z.elim) h⟩
  · cases h with
    | zero =>
      cases q
      refine ⟨a, rfl, ns.map V.int, ?_, rds_ints ns⟩
      rcases hs with (e | ⟨o, e⟩) | e
      · rcases ho a with z | ⟨o, xs, z⟩
        · rw [z] at e; cases e
        · rw [z] at e; cases e
      · exact .inl ⟨o, e⟩
      · exact .inr e
    | succ h => cases q
  · cases h with
    | zero => exact absurd (show 1 ≤ 0 from l) (by decide)
    | succ h => rfl
  · cases h with
    | zero =>
      cases h' with
      | zero => rfl
      | succ h' => cases e'
    | succ h => cases e
  · subst z
    exact r
end
end Y
set_option linter.all false
set_option maxHeartbeats 4000000
set_option maxRecDepth 100000
namespace Y
open PySem PySem.Spec PyProof.Rows L2 RZ
theorem zip_some : ∀ {ps : List Str} {us : List Value} {x : Str}, us.length = ps.length → x ∈ ps → ((ps.zip us).lookup x).isSome = true
  | p :: ps, u :: us, x, hl, hx => by
    rw [List.zip_cons_cons, List.lookup_cons]
    cases e : x == p with
    | true => rfl
    | false =>
      refine zip_some (Nat.succ.inj hl) ?_
      cases hx with
      | head => rw [beq_self_eq_true] at e; cases e
      | tail _ m => exact m
theorem zip_map : ∀ {ps : List Str} {us : List Value} (l : List (Str × Value)), us.length = ps.length → ps.Nodup → (∀ x ∈ ps, l.lookup x = (ps.zip us).lookup x) → ps.filterMap (fun n => (l.lookup n).map (n, ·)) = ps.zip us
  | [], _, _, _, _, _ => by simp
  | p :: ps, u :: us, l, hl, nd, h => by
    have h0 : l.lookup p = some u := by
      rw [h p List.mem_cons_self, List.zip_cons_cons, List.lookup_cons, beq_self_eq_true]
    rw [List.filterMap_cons, h0, List.zip_cons_cons]
    refine congrArg ((p, u) :: ·) (zip_map l (Nat.succ.inj hl) (List.nodup_cons.mp nd).2 fun x hx => ?_)
    rw [h x (List.mem_cons_of_mem _ hx), List.zip_cons_cons, List.lookup_cons]
    have ne : (x == p) = false := by
      apply Bool.eq_false_iff.mpr
      intro z
      rw [eq_of_beq z] at hx
      exact (List.nodup_cons.mp nd).1 hx
    rw [ne]
theorem bind_gen {fd : FuncData} {ps : List Str} {us : List Value} (h1 : fd.params.posonlyargs = []) (h2 : fd.params.args.map (·.arg) = ps) (h3 : fd.params.kwonlyargs = []) (h4 : fd.params.vararg = none) (h5 : fd.params.kwarg = none) (h6 : fd.defaults = .none) (nd : ps.Nodup) (hl : us.length = ps.length) :
    bindArgs fd ⟨us, []⟩ = pure (ps.zip us) := by
  have sq : seqItems? fd.defaults = pure none := by
    rw [h6]
    rfl
  have miss : (ps.filter fun n => ((ps.zip us).lookup n).isNone) = [] := by
    rw [List.filter_eq_nil_iff]
    intro x hx
    have q := zip_some hl hx
    cases e : (ps.zip us).lookup x with
    | none => rw [e] at q; cases q
    | some v => simp
  have fm := zip_map (ps.zip us) hl nd fun _ _ => rfl
  unfold bindArgs
  simp only [h1, h2, h3, h4, h5, sq, List.map_nil, List.nil_append, List.append_nil, List.forIn_nil, pure_bind, Option.getD_none, List.length_nil, Nat.sub_zero, Nat.zero_sub, List.drop_nil, List.drop_zero, List.take_length, miss, List.isEmpty_nil, hl, Nat.lt_irrefl, List.zip_nil_right, fm, gt_iff_lt, decide_false, Bool.false_and, Option.isNone_none, Bool.not_true, Bool.false_eq_true, if_false]
end Y
set_option linter.all false
set_option maxHeartbeats 4000000
set_option maxRecDepth 100000
namespace Y
open PySem PySem.Spec PyProof.Rows L2 RZ
theorem zip_none : ∀ {ps : List Str} {us : List Value} {x : Str}, x ∉ ps → (ps.zip us).lookup x = none
  | [], us, x, _ => by simp
  | p :: ps, [], x, _ => by simp
  | p :: ps, u :: us, x, h => by
    rw [List.zip_cons_cons, List.lookup_cons]
    have ne : (x == p) = false := by
      apply Bool.eq_false_iff.mpr
      intro z
      exact h (by rw [eq_of_beq z]; exact List.mem_cons_self)
    rw [ne]
    exact zip_none fun m => h (List.mem_cons_of_mem _ m)
theorem zip_app {qs : List Str} {q : Str} {us : List Value} (hl : us.length = qs.length) : (qs ++ [q]).zip us = qs.zip us := by
  induction qs generalizing us with
  | nil => rw [List.length_eq_zero_iff.mp hl]; simp
  | cons p qs ih =>
    cases us with
    | nil => cases hl
    | cons u us => rw [List.cons_append, List.zip_cons_cons, List.zip_cons_cons, ih (Nat.succ.inj hl)]
theorem zip_app2 {qs : List Str} {q : Str} {us : List Value} {v : Value} (hl : us.length = qs.length) : (qs ++ [q]).zip (us ++ [v]) = qs.zip us ++ [(q, v)] := by
  induction qs generalizing us with
  | nil => rw [List.length_eq_zero_iff.mp hl]; rfl
  | cons p qs ih =>
    cases us with
    | nil => cases hl
    | cons u us => rw [List.cons_append, List.cons_append, List.zip_cons_cons, List.zip_cons_cons, List.cons_append, ih (Nat.succ.inj hl)]
theorem bind_all1 {x qual : Str} {params : Arguments} {body : List Stmt} {scope : Scope} {T : Addr} {kV doc pm : Value} {an : Option Addr} {cdv ct : Value} {qs : List Str} {q : Str} {us : List Value} {v : Value} (h1 : params.posonlyargs = []) (h2 : params.args.map (·.arg) = qs ++ [q]) (h3 : params.kwonlyargs = []) (h4 : params.vararg = none) (h5 : params.kwarg = none) (nd : (qs ++ [q]).Nodup) (hl : us.length = (qs ++ [q]).length) :
    ∃ k, bindArgs (PySem.W.fnOf x qual params body scope (.ref T) kV doc pm an cdv ct) ⟨us, []⟩ = seqItems? (.ref T) >>= k ∧ k (some [v].toArray) = pure ((qs ++ [q]).zip us) := by
  refine ⟨_, rfl, ?_⟩
  have some_ : ∀ y ∈ qs ++ [q], (((qs ++ [q]).zip us).lookup y).isSome = true := fun y hy => zip_some hl hy
  have miss : ((qs).filter fun n => (((qs ++ [q]).zip us).lookup n).isNone) = [] := by
    rw [List.filter_eq_nil_iff]
    intro y hy
    have z := some_ y (List.mem_append_left _ hy)
    cases e : ((qs ++ [q]).zip us).lookup y with
    | none => rw [e] at z; cases z
    | some v => simp
  have lq : (((qs ++ [q]).zip us).lookup q).isNone = false := by
    have z := some_ q (by simp)
    cases e : ((qs ++ [q]).zip us).lookup q with
    | none => rw [e] at z; cases z
    | some v => rfl
  have fm := zip_map ((qs ++ [q]).zip us) hl nd fun _ _ => rfl
  have lens : (qs ++ [q]).length = qs.length + 1 := by simp
  have d1 : List.drop (1 - (qs.length + 1)) [v] = [v] := by rw [show 1 - (qs.length + 1) = 0 by omega]; rfl
  have d2 : List.take qs.length (qs ++ [q]) = qs := List.take_left
  have d3 : List.drop qs.length (qs ++ [q]) = [q] := List.drop_left
  simp only [PySem.W.fnOf, h1, h2, h3, h4, h5, List.map_nil, List.nil_append, List.append_nil, List.forIn_nil, pure_bind, Option.getD_some, List.toList_toArray, List.length_singleton, hl, lens, gt_iff_lt, Nat.lt_irrefl, decide_false, Bool.false_and, Bool.false_eq_true, if_false, d1, Nat.add_sub_cancel, d2, d3, miss, List.isEmpty_nil, Bool.not_true,
    List.zip_cons_cons, List.zip_nil_left, List.forIn_cons, lq, fm]
theorem bind_dfl1 {x qual : Str} {params : Arguments} {body : List Stmt} {scope : Scope} {T : Addr} {kV doc pm : Value} {an : Option Addr} {cdv ct : Value} {qs : List Str} {q : Str} {us : List Value} {v : Value} (h1 : params.posonlyargs = []) (h2 : params.args.map (·.arg) = qs ++ [q]) (h3 : params.kwonlyargs = []) (h4 : params.vararg = none) (h5 : params.kwarg = none) (nd : (qs ++ [q]).Nodup) (hl : us.length = qs.length) :
    ∃ k, bindArgs (PySem.W.fnOf x qual params body scope (.ref T) kV doc pm an cdv ct) ⟨us, []⟩ = seqItems? (.ref T) >>= k ∧ k (some [v].toArray) = pure ((qs ++ [q]).zip (us ++ [v])) := by
  refine ⟨_, rfl, ?_⟩
  have ndq : q ∉ qs := fun m => (List.nodup_append.mp nd).2.2 q m q (by simp) rfl
  have some_ : ∀ y ∈ qs, ((qs.zip us).lookup y).isSome = true := fun y hy => zip_some hl hy
  have miss : ((qs).filter fun n => ((qs.zip us).lookup n).isNone) = [] := by
    rw [List.filter_eq_nil_iff]
    intro y hy
    have z := some_ y hy
    cases e : (qs.zip us).lookup y with
    | none => rw [e] at z; cases z
    | some v => simp
  have lq : ((qs.zip us).lookup q).isNone = true := by rw [zip_none ndq]; rfl
  have fm := zip_map (ps := qs ++ [q]) (us := us ++ [v]) (qs.zip us ++ [(q, v)]) (by simp [hl]) nd fun _ _ => by rw [zip_app2 hl]
  rw [zip_app2 hl] at fm ⊢
  have lens : (qs ++ [q]).length = qs.length + 1 := by simp
  have nlt : ¬ qs.length + 1 < qs.length := by omega
  have d1 : List.drop (1 - (qs.length + 1)) [v] = [v] := by rw [show 1 - (qs.length + 1) = 0 by omega]; rfl
  have d2 : List.take qs.length (qs ++ [q]) = qs := List.take_left
  have d3 : List.drop qs.length (qs ++ [q]) = [q] := List.drop_left
  simp only [PySem.W.fnOf, h1, h2, h3, h4, h5, List.map_nil, List.nil_append, List.append_nil, List.forIn_nil, pure_bind, Option.getD_some, List.toList_toArray, List.length_singleton, hl, lens, gt_iff_lt, nlt, decide_false, Bool.false_and, Bool.false_eq_true, if_false, d1, Nat.add_sub_cancel, d2, d3, zip_app hl, miss, List.isEmpty_nil, Bool.not_true,
    List.zip_cons_cons, List.zip_nil_left, List.forIn_cons, lq, if_true, fm]
section
variable {K : PySem.W.Frag} {ps N : List Str} {x qual : Str} {a : Arguments} {body : List Stmt} {sc : Scope} {dv : V} {f : Addr} {fd : FuncData}
theorem vals_nil {ds : List Value} (h : Vals ([] : List V) ds) : ds = [] := by cases h; rfl
theorem one_of {its : List Value} (h : its.length = [dv].length) : ∃ v, its = [v] := by
  cases its with
  | nil => cases h
  | cons v r => cases r with
    | nil => exact ⟨v, rfl⟩
    | cons _ _ => cases h
theorem last_of (h : ps ≠ []) : ∃ qs q, ps = qs ++ [q] := ⟨_, _, (List.dropLast_concat_getLast h).symm⟩
theorem binds_one (F : FunD K x qual a body sc [dv] [] f fd) (ne : ps ≠ []) (nd : ps.Nodup) (h1 : a.posonlyargs = []) (h2 : a.args.map (·.arg) = ps) (h3 : a.kwonlyargs = []) (h4 : a.vararg = none) (h5 : a.kwarg = none) :
    Binds K fd ps [] ∧ ∃ ds, Vals [dv] ds ∧ Binds K fd ps ds := by
  obtain ⟨qs, q, rfl⟩ := last_of ne
  refine ⟨?_, ?_⟩
  · obtain ⟨ds, h, b⟩ := F.binds1 (ps := qs ++ [q]) (qs ++ [q]).length 1 (by simp) (by simp) fun T kV doc pm an cdv ct us its hu hi => by
      obtain ⟨v, rfl⟩ := one_of (dv := dv) hi
      obtain ⟨k, e1, e2⟩ := bind_all1 (x := x) (qual := qual) (body := body) (scope := sc) (T := T) (kV := kV) (doc := doc) (pm := pm) (an := an) (cdv := cdv) (ct := ct) (v := v) h1 h2 h3 h4 h5 nd hu
      exact ⟨k, e1, by rw [e2]; simp⟩
    rw [vals_nil h] at b
    exact b
  · exact F.binds1 (ps := qs ++ [q]) qs.length 0 (by simp) (by simp) fun T kV doc pm an cdv ct us its hu hi => by
      obtain ⟨v, rfl⟩ := one_of (dv := dv) hi
      exact bind_dfl1 h1 h2 h3 h4 h5 nd hu
end
end Y
set_option linter.all false
set_option maxHeartbeats 4000000
set_option maxRecDepth 100000
namespace Y
open PySem PySem.Spec PyProof.Rows L2 RZ
structure Fd where
  d : He.DefD
  N : List Str
  ps : List Str
  fn : Fn
  df : List D := []
structure Ld where
  fds : List Fd
  cls : List (Str × Option (Option Nat))
  flds : List Str
  gls : List (Str × D)
  mts : List (Nat × Nat × Str)
  mks : List (Nat × Nat)
  xis : List (Nat × He.DefD × Str × Str)
  subs : List (Nat × Nat)
  kons : List (Str × List (List Nat × D)) := []
namespace Ld
variable (L : Ld)
def tab : Tab where
  fn f := (L.fds[f]?).map (·.fn)
  glo i := (L.gls[i]?).map (·.2)
  kon k := match L.kons[k]? with
    | some p => p.2
    | none => []
  exf c := match L.cls[c]? with
    | some (_, some f) => some f
    | _ => none
  sub c d := L.subs.contains (c, d)
def cln (c : Nat) : Str := match L.cls[c]? with
  | some (x, _) => x
  | none => ""
def nm : Nm where
  fn f := match L.fds[f]? with
    | some d => (match d.d.at_.2 with
      | none => some d.d.at_.1
      | some _ => none)
    | none => none
  gl i := (L.gls[i]?).map (·.1)
  cl c := match L.cls[c]? with
    | some (x, none) => some x
    | _ => none
  ex c := match L.cls[c]? with
    | some (x, some _) => some x
    | _ => none
  fd f := L.flds[f]?
  mk_ c := L.mks.lookup c
  df f := match L.fds[f]? with
    | some d => d.df
    | none => []
  mt c f := (L.mts.find? fun p => p.1 == c && p.2.1 == f).map (·.2.2)
def at_ (f : Nat) : Str × Option Str := match L.fds[f]? with
  | some d => d.d.at_
  | none => ("", none)
def kln (k : Nat) : Str := match L.kons[k]? with
  | some p => p.1
  | none => ""
def g (K : PySem.W.Frag) : G where
  K := K
  fa f := He.fAd K (L.at_ f)
  ca c := He.ga K (L.cln c)
  ka k := He.ga K (L.kln k)
  nm := L.nm.fd
  okc c := (L.nm.cl c).isSome
  oke c := (L.nm.ex c).isSome
def tabs : List He.Tab := L.kons.map fun p => ((fun K => He.ga K p.1), p.2.map fun q => (⟨q.1.toArray⟩ : Str))
end Ld
def dvD : He.Dv → D → Bool
  | .non, .non => true
  | .bl a, .bl b => a == b
  | .int a, .int b => decide (a = b)
  | .str a, .str b => decide (a = ⟨b.toArray⟩)
  | _, _ => false
theorem dvD_ok {K : PySem.W.Frag} {g : G} {m : Mp} {H : Hp} {v : He.Dv} {d : D} (h : dvD v d = true) : RD g m H d (v.v K) := by
  unfold dvD at h
  split at h
  · rfl
  · rw [eq_of_beq h]; rfl
  · rw [of_decide_eq_true h]; rfl
  · rw [of_decide_eq_true h]; rfl
  · cases h
def dvB (K : PySem.W.Frag) : Nat → D → Value → Bool
  | _, .non, .none => true
  | _, .bl b, .bool c => b == c
  | _, .int i, .int j _ => decide (i = j)
  | _, .str x, .str y _ => decide (y = ⟨x.toArray⟩)
  | n + 1, .tup ds, .ref a => (match K.lookup a with
    | some ⟨.type c, _, .seq its _, _⟩ => decide (c = "tuple") && decide (its.size ≤ sizeLine) && decide (ds.length = its.toList.length) && ((ds.zip its.toList).all fun p => dvB K n p.1 p.2)
    | _ => false)
  | _, _, _ => false
theorem dvB_ok {K : PySem.W.Frag} {g : G} (hK : g.K = K) : ∀ (n : Nat) (d : D) (u : Value), dvB K n d u = true → ∃ v, RelV v u ∧ ∀ m H, RD g m H d v := by
  have list : ∀ (n : Nat), (∀ (d : D) (u : Value), dvB K n d u = true → ∃ v, RelV v u ∧ ∀ m H, RD g m H d v) → ∀ (ds : List D) (us : List Value), ds.length = us.length → ((ds.zip us).all fun p => dvB K n p.1 p.2) = true → ∃ vs, Vals vs us ∧ ∀ m H, RDs g m H ds vs := by
    intro n hn ds
    induction ds with
    | nil =>
      intro us l _
      have e : us = [] := List.eq_nil_of_length_eq_zero l.symm
      subst e
      exact ⟨[], .nil, fun _ _ => rfl⟩
    | cons d ds ih =>
      intro us l h
      cases us with
      | nil => cases l
      | cons u us =>
        rw [List.zip_cons_cons, List.all_cons, Bool.and_eq_true] at h
        obtain ⟨v, h1, h2⟩ := hn d u h.1
        obtain ⟨vs, h3, h4⟩ := ih us (Nat.succ.inj l) h.2
        exact ⟨v :: vs, .cons h1 h3, fun m H => .cons (h2 m H) (h4 m H)⟩
  intro n
  induction n with
  | zero =>
    intro d u h
    unfold dvB at h
    split at h
    · exact ⟨.non, rfl, fun _ _ => rfl⟩
    · exact ⟨.bl _, by rw [eq_of_beq h]; rfl, fun _ _ => rfl⟩
    · exact ⟨.int _, ⟨_, by rw [of_decide_eq_true h]⟩, fun _ _ => rfl⟩
    · exact ⟨.str _, ⟨_, by rw [of_decide_eq_true h]⟩, fun _ _ => rfl⟩
    · rename_i e; cases e
    · cases h
  | succ n ih =>
    intro d u h
    unfold dvB at h
    split at h
    · exact ⟨.non, rfl, fun _ _ => rfl⟩
    · exact ⟨.bl _, by rw [eq_of_beq h]; rfl, fun _ _ => rfl⟩
    · exact ⟨.int _, ⟨_, by rw [of_decide_eq_true h]⟩, fun _ _ => rfl⟩
    · exact ⟨.str _, ⟨_, by rw [of_decide_eq_true h]⟩, fun _ _ => rfl⟩
    · rename_i e
      cases e
      split at h
      · rename_i lk
        simp only [Bool.and_eq_true, decide_eq_true_eq] at h
        obtain ⟨⟨⟨h1, h2⟩, h3⟩, h4⟩ := h
        obtain ⟨vs, r, k⟩ := list n ih _ _ h3 h4
        refine ⟨.ref _, rfl, fun m' H => ⟨_, vs, rfl, .inr ⟨_, _, _, by rw [hK]; exact lk, by rw [h1], rfl, h2, r⟩, k m' H⟩⟩
      · cases h
    · cases h
def konB (K : PySem.W.Frag) (a : Addr) (kvs : List (List Nat × D)) : Bool := match K.lookup a with
  | some ⟨.type c, _, .dict es _, _⟩ => decide (c = "dict") && decide (es.toList.length = kvs.length) && (es.toList.zip kvs).all fun q => (match q.1.key with
    | .str z _ => decide (z = ⟨q.2.1.toArray⟩)
    | _ => false) && dvB K 5 q.2.2 q.1.val
  | _ => false
theorem konB_find {K : PySem.W.Frag} {g : G} (hK : g.K = K) (x : List Nat) : ∀ (es : List DictEntry) (kvs : List (List Nat × D)), es.length = kvs.length → ((es.zip kvs).all fun q => (match q.1.key with
    | .str z _ => decide (z = ⟨q.2.1.toArray⟩)
    | _ => false) && dvB K 5 q.2.2 q.1.val) = true →
    (es.any (·.refKey)) = false ∧ (match getC kvs (.str x) with
    | some d => ∃ e v, es.find? (·.key.isStr ⟨x.toArray⟩) = some e ∧ RelV v e.val ∧ ∀ m H, RD g m H d v
    | none => es.find? (·.key.isStr ⟨x.toArray⟩) = none)
  | [], [], _, _ => ⟨rfl, rfl⟩
  | [], _ :: _, l, _ => by cases l
  | _ :: _, [], l, _ => by cases l
  | e :: es, q :: kvs, l, h => by
    rw [List.zip_cons_cons, List.all_cons, Bool.and_eq_true] at h
    obtain ⟨h0, h⟩ := h
    obtain ⟨h1, h2⟩ := and2 h0
    obtain ⟨i1, i2⟩ := konB_find hK x es kvs (Nat.succ.inj l) h
    dsimp only at h1 h2
    split at h1
    · rename_i z t ek
      have ez := of_decide_eq_true h1
      have kk : e.key.isStr ⟨x.toArray⟩ = decide (q.1 = x) := by
        rw [ek, ez]
        exact str_eqv q.1 x
      refine ⟨?_, ?_⟩
      · rw [List.any_cons, i1, Bool.or_false]
        unfold DictEntry.refKey
        rw [ek]
      · rw [List.find?_cons, kk]
        by_cases z : q.1 = x
        · have g1 : getC (q :: kvs) (.str x) = some q.2 := by simp [getC, List.find?_cons, z]
          rw [g1, decide_eq_true z]
          obtain ⟨v, r1, r2⟩ := dvB_ok hK 5 _ _ h2
          exact ⟨e, v, rfl, r1, r2⟩
        · have g1 : getC (q :: kvs) (.str x) = getC kvs (.str x) := by simp [getC, List.find?_cons, z]
          rw [g1, decide_eq_false z]
          exact i2
    · cases h1
def oexB (K : PySem.W.Frag) (A0 : Addr) : Bool := (match K.lookup A0 with
  | some ⟨.type c, _, .cls cd, sl⟩ => decide (c = "type") && (match cd.mro, sl.toList with
    | .ref C' :: bm, [_, _, _, _, some (.builtin nn), _] => decide (C' = A0) && decide (nn = "ValueError.__new__") && !cd.hasDel && cd.hasDict && PySem.HandSPX.refsVE bm
    | _, _ => false)
  | _ => false) && He.eqO (PySem.W.findIn K (.ref A0) "__setattr__") (some (some (.builtin "object.__setattr__"))) && decide (PySem.W.subIn K (.ref A0) (.type "BaseException") = some true) && decide (PySem.W.typeIn K (.ref A0) = some (.type "type")) && PySem.W.keepIn K (.ref A0)
theorem oexB_ok {K : PySem.W.Frag} {A0 : Addr} (h : oexB K A0 = true) : OexC K A0 := by
  unfold oexB at h
  obtain ⟨h, h5⟩ := and2 h
  obtain ⟨h, h4⟩ := and2 h
  obtain ⟨h, h3⟩ := and2 h
  obtain ⟨h1, h2⟩ := and2 h
  refine ⟨?_, He.eqO_ok h2, of_decide_eq_true h3, of_decide_eq_true h4, h5⟩
  split at h1
  · rename_i c od cd sl lk
    obtain ⟨k1, k2⟩ := and2 h1
    have k1 := of_decide_eq_true k1
    split at k2
    · rename_i C' bm k0 k1' k2' k3 nn k5 hm hs
      simp only [Bool.and_eq_true, decide_eq_true_eq, Bool.not_eq_true'] at k2
      obtain ⟨⟨⟨⟨q1, q2⟩, q3⟩, q4⟩, q5⟩ := k2
      obtain ⟨nm, bs, mro, ns, qn, hd, sn, sub, ab, col, del⟩ := cd
      dsimp only at hm q3 q4
      subst hm q1 q2 q3 q4 k1
      have hsl : sl = #[k0, k1', k2', k3, some (.builtin "ValueError.__new__"), k5] := by
        obtain ⟨l⟩ := sl
        simp only at hs
        rw [hs]
      subst hsl
      exact ⟨nm, qn, ns, bs, bm, sn, sub, ab, col, od, k0, k1', k2', k3, k5, lk, q5⟩
    · cases k2
  · cases h1
def xiB (y : Str) (N : List Str) (sc : Scope) : List Stmt → Bool
  | [.Assign [.Attribute (.Name s _) y' _] (.Name p _) _] => decide (y' = y) && decide (N = [s, p]) && visB ⟨N, sc⟩ s && visB ⟨N, sc⟩ p && okN s && okN p
  | _ => false
def scB (N ps : List Str) (sc : Scope) : Bool := (match sc.kind with
  | .function => true
  | _ => false) && !sc.isCoroutine && !sc.isGenerator && decide N.Nodup && decide (N.take ps.length = ps) && (ps.all fun x => locB ⟨N, sc⟩ x) && (sc.names.all fun y => match y.2 with
  | .free => false
  | _ => true)
theorem scB_ok {N ps : List Str} {sc : Scope} (h : scB N ps sc = true) : FnScope N ps sc := by
  unfold scB at h
  obtain ⟨h, h7⟩ := and2 h
  obtain ⟨h, h6⟩ := and2 h
  obtain ⟨h, h5⟩ := and2 h
  obtain ⟨h, h4⟩ := and2 h
  obtain ⟨h, h3⟩ := and2 h
  obtain ⟨h1, h2⟩ := and2 h
  rw [Bool.not_eq_true'] at h2 h3
  refine ⟨?_, h2, h3, of_decide_eq_true h4, of_decide_eq_true h5, fun x hx => ?_, fun y hy e => ?_⟩
  · split at h1
    · assumption
    · cases h1
  · have q := List.all_eq_true.mp h6 x hx
    unfold locB at q
    split at q
    · exact .inl (by assumption)
    · exact .inr (by assumption)
    · cases q
  · have q := List.all_eq_true.mp h7 y hy
    rw [e] at q
    cases q
def paB (ps : List Str) (a : Arguments) : Bool := a.posonlyargs.isEmpty && decide (a.args.map (·.arg) = ps) && a.kwonlyargs.isEmpty && a.vararg.isNone && a.kwarg.isNone
theorem paB_ok {K : PySem.W.Frag} {ps N : List Str} {x qual : Str} {a : Arguments} {body : List Stmt} {sc : Scope} {f : Addr} {fd : FuncData} (F : FunD K x qual a body sc [] [] f fd) (Sc : FnScope N ps sc) (h : paB ps a = true) : Binds K fd ps [] := by
  unfold paB at h
  obtain ⟨h, h5⟩ := and2 h
  obtain ⟨h, h4⟩ := and2 h
  obtain ⟨h, h3⟩ := and2 h
  obtain ⟨h1, h2⟩ := and2 h
  have nd : ps.Nodup := by
    rw [← Sc.pre]
    exact List.Sublist.nodup (List.take_sublist _ _) Sc.nd
  exact F.bindsN fun kV doc pm an cdv ct us hl => bind_gen (List.isEmpty_iff.mp h1) (of_decide_eq_true h2) (List.isEmpty_iff.mp h3) (Option.isNone_iff_eq_none.mp h4) (Option.isNone_iff_eq_none.mp h5) rfl nd hl
theorem paB_any {K : PySem.W.Frag} {ps N : List Str} {x qual : Str} {a : Arguments} {body : List Stmt} {sc : Scope} {f : Addr} {fd : FuncData} (F : FunD K x qual a body sc [] [] f fd) (Sc : FnScope N ps sc) (h : paB ps a = true) (s : Shared) (us : List Value) (hl : us.length = ps.length) : BindsTo s fd ⟨us, []⟩ (ps.zip us) := by
  unfold paB at h
  obtain ⟨h, h5⟩ := and2 h
  obtain ⟨h, h4⟩ := and2 h
  obtain ⟨h, h3⟩ := and2 h
  obtain ⟨h1, h2⟩ := and2 h
  have nd : ps.Nodup := by
    rw [← Sc.pre]
    exact List.Sublist.nodup (List.take_sublist _ _) Sc.nd
  exact F.bindsA (fun kV doc pm an cdv ct us hl => bind_gen (List.isEmpty_iff.mp h1) (of_decide_eq_true h2) (List.isEmpty_iff.mp h3) (Option.isNone_iff_eq_none.mp h4) (Option.isNone_iff_eq_none.mp h5) rfl nd hl) s us hl
theorem xi_fn {P : Program} {w : World} {K : PySem.W.Frag} {mg : Str → Option Value} {base : Heap} {x qual y : Str} {a : Arguments} {body : List Stmt} {sc : Scope} {f A0 : Addr} {fd : FuncData} {N ps : List Str} {dvs : List V} {kws : List (Str × V)} (F : FunD K x qual a body sc dvs kws f fd) (Sc : FnScope N ps sc)
    (hN : ps = N) (h : xiB y N sc body = true) (T0 : OexC K A0) (na : PySem.W.findIn K (.ref A0) y = some none) : FnOk P w K mg base (L2.CX P w) 1 f fd ps (spX K A0 y) := by
  unfold xiB at h
  split at h
  · rename_i s p1 y' p2 p p3 pos
    obtain ⟨h, h6⟩ := and2 h
    obtain ⟨h, h5⟩ := and2 h
    obtain ⟨h, h4⟩ := and2 h
    obtain ⟨h, h3⟩ := and2 h
    obtain ⟨h1, h2⟩ := and2 h
    have h1 := of_decide_eq_true h1
    have h2 := of_decide_eq_true h2
    subst h1 hN h2
    have vis : ∀ z, visB ⟨[s, p], sc⟩ z = true → Vis sc z := fun z hz => by
      unfold visB at hz
      split at hz
      · exact .inl (by assumption)
      · exact .inr (.inl (by assumption))
      · exact .inr (.inr (by assumption))
      · cases hz
    refine F.ok (k := 0) Sc (fun vs H Q E z => ?_) fun cdv A outer st H vs Q E hr z => ?_
    · obtain ⟨a, v, rfl, _⟩ := z
      rfl
    · obtain ⟨a, v, rfl, ea, z⟩ := z
      exact ⟨_, pss_one (ps_ost (pe_var (i := 0) rfl (vis s h3) (okN_1 h5) (okN_2 h5)) (pe_var (i := 1) rfl (vis p h4) (okN_1 h6) (okN_2 h6))), v, rfl, .ref a, rfl, a, A0, rfl, T0, na, .inl ⟨ea, fun dx nd ne => z dx nd ne⟩⟩
  · cases h
end Y
set_option linter.all false
set_option maxHeartbeats 4000000
set_option maxRecDepth 100000
namespace Y
open PySem PySem.Spec PyProof.Rows L2 RZ
def allTys : List Ty := [.int, .str, .bool, .tuple, .list, .dict]
namespace Ld
variable (L : Ld)
def ownB (K : PySem.W.Frag) (c : Nat) (x : Str) : Bool := (He.Fa.cls x).ok K && He.eqO (PySem.W.findIn K (.ref (He.ga K x)) "__class__") (some (some (.builtin "object.__class__"))) && decide (PySem.W.mroIn K (He.ga K x) (.type "object") = some true) &&
  (L.flds.all fun y => (He.Fa.noat x y).ok K) &&
  (allTys.all fun t => decide (PySem.W.kitOne K (.ref (He.ga K x)) (tyV1 (L.g K) t) = some (isTy L.tab (some (.own c)) t))) &&
  ((List.range L.cls.length).all fun d => match L.nm.cl d with
    | none => true
    | some _ => decide (PySem.W.kitOne K (.ref (He.ga K x)) (.ref ((L.g K).ca d)) = some (L.tab.sub c d))) &&
  (["NoneType", "bool", "int", "str", "tuple", "list", "dict"].all fun t => decide (PySem.W.kitOne K (.type t) (.ref (He.ga K x)) = some false))
def clsB (K : PySem.W.Frag) : Bool := (List.range L.cls.length).all fun c => match L.cls[c]? with
  | none => true
  | some (x, k) => (He.Fa.glo x).ok K && (match k with
    | none => L.ownB K c x
    | some k => (match k with
      | none => (He.Fa.exc x).ok K
      | some f => oexB K (He.ga K x) && (match L.flds[f]? with
        | some y => (He.Fa.noat x y).ok K
        | none => false)) && ((List.range L.cls.length).all fun d => match L.nm.ex d with
          | none => true
          | some y => (He.Fa.exm x y (L.tab.sub c d)).ok K))
def desB (K : PySem.W.Frag) : Bool := decide (PySem.W.specialIn K (.builtin "object.__class__") "__get__" = some (some (.builtin "getset_descriptor.__get__"))) && decide (PySem.W.takesIn K (.builtin "object.__class__") = some true)
def facts (K : PySem.W.Frag) : Bool := (bltNames.all fun x => (He.Fa.free x).ok K) &&
  (L.fds.all fun d => match d.d.at_.2 with
    | none => (He.Fa.glo d.d.at_.1).ok K
    | some _ => true) &&
  (L.gls.all fun p => match p.2 with
    | .kon k => decide ((L.kons[k]?).map (·.1) = some p.1) && (He.Fa.glo p.1).ok K
    | _ => (match PySem.W.nsIn K mainGlobals p.1 with
      | some (some u) => dvB K 5 p.2 u
      | _ => false)) &&
  L.clsB K && ((!L.cls.any fun p => p.2.isNone) || desB K) &&
  (L.mts.all fun p => (He.Fa.meth (L.cln p.1) p.2.2).ok K) &&
  (L.mks.all fun p => (He.Fa.mkr (L.cln p.1)).ok K) &&
  (L.xis.all fun p => decide (PySem.W.typeIn K (.ref (He.fAd K p.2.1.at_)) = some (.type "function")) && He.eqO (PySem.W.findIn K (.ref (He.ga K (L.cln p.1))) "__init__") (some (some (.ref (He.fAd K p.2.1.at_))))) &&
  (L.kons.all fun p => konB K (He.ga K p.1) p.2)
def stat : Bool := decide L.flds.Nodup && (L.fds.all fun d => scB d.N d.ps d.d.scope && paB d.ps d.d.params && ((d.d.dfl.isEmpty && d.df.isEmpty) || (match d.d.dfl, d.df with
    | [v], [x] => dvD v x && !d.ps.isEmpty
    | _, _ => false)) && d.d.kwd.isEmpty && true && decide (d.ps.length = d.fn.np) && decide (d.N.length = d.fn.ns) && ckB L.nm d.fn.body ⟨d.N, d.d.scope⟩ d.d.body) &&
  (L.mts.all fun p => decide (L.at_ p.2.1 = (L.cln p.1, some p.2.2)) && !(L.flds.contains p.2.2)) &&
  (L.mks.all fun p => decide (L.at_ p.2 = (L.cln p.1, some ("__init__" : Str)))) &&
  ((List.range L.cls.length).all fun c => match L.cls[c]? with
    | some (_, some (some f)) => (match L.xis.lookup c with
      | some (d, s, p) => (match L.flds[f]? with
        | some y => scB [s, p] [s, p] d.scope && paB [s, p] d.params && d.dfl.isEmpty && d.kwd.isEmpty && xiB y [s, p] d.scope d.body
        | none => false)
      | none => false)
    | _ => true)
def defs : List He.DefD := L.fds.map (·.d) ++ L.xis.map (·.2.1)
end Ld
section
variable {L : Ld} {K : PySem.W.Frag} {h : Heap} {mg : Str → Option Value} {P : Program} {w : World}
theorem range_all {k : Nat} {p : Nat → Bool} (h : (List.range k).all p = true) {i : Nat} (l : i < k) : p i = true := List.all_eq_true.mp h i (List.mem_range.mpr l)
theorem cl_of {c : Nat} {x : Str} (e : L.nm.cl c = some x) : L.cls[c]? = some (x, none) := by
  unfold Ld.nm at e
  dsimp only at e
  split at e
  · cases e
    assumption
  · cases e
theorem ex_of {c : Nat} {x : Str} (e : L.nm.ex c = some x) : ∃ k, L.cls[c]? = some (x, some k) := by
  unfold Ld.nm at e
  dsimp only at e
  split at e
  · cases e
    exact ⟨_, by assumption⟩
  · cases e
theorem cln_of {c : Nat} {p : Str × Option (Option Nat)} (e : L.cls[c]? = some p) : L.cln c = p.1 := by
  unfold Ld.cln
  rw [e]
theorem lt_of {α : Type} {l : List α} {i : Nat} {x : α} (e : l[i]? = some x) : i < l.length := (List.getElem?_eq_some_iff.mp e).1
theorem nodup_ix : ∀ {l : List Str}, l.Nodup → ∀ {i j : Nat} {x : Str}, l[i]? = some x → l[j]? = some x → i = j
  | [], _, _, _, _, h, _ => by simp at h
  | a :: l, nd, 0, 0, x, _, _ => rfl
  | a :: l, nd, 0, j + 1, x, h1, h2 => by
    have e : a = x := by simpa using h1
    subst e
    exact absurd (List.mem_of_getElem? (by simpa using h2)) (List.nodup_cons.mp nd).1
  | a :: l, nd, i + 1, 0, x, h1, h2 => by
    have e : a = x := by simpa using h2
    subst e
    exact absurd (List.mem_of_getElem? (by simpa using h1)) (List.nodup_cons.mp nd).1
  | a :: l, nd, i + 1, j + 1, x, h1, h2 => congrArg Nat.succ (nodup_ix (List.nodup_cons.mp nd).2 (by simpa using h1) (by simpa using h2))
theorem mt_mem {c f : Nat} {x : Str} (e : L.nm.mt c f = some x) : (c, f, x) ∈ L.mts := by
  unfold Ld.nm at e
  dsimp only at e
  obtain ⟨p, h1, h2⟩ := Option.map_eq_some_iff.mp e
  have hm := List.mem_of_find?_eq_some h1
  have hp := List.find?_some h1
  rw [Bool.and_eq_true] at hp
  obtain ⟨a, b, y⟩ := p
  have e1 : a = c := eq_of_beq hp.1
  have e2 : b = f := eq_of_beq hp.2
  subst e1 e2 h2
  exact hm
theorem top_at (X : K.In h) (G0 : h.Ns mainGlobals mg) (hf : L.facts K = true) (hs : L.stat = true) (hd : ∀ f x, L.nm.fn f = some x → PySem.W.keepIn K (.ref ((L.g K).fa f)) = true) : TopAt (L.g K) L.tab L.nm mg := by
  unfold Ld.facts at hf
  obtain ⟨hf, f9⟩ := and2 hf
  obtain ⟨hf, f8⟩ := and2 hf
  obtain ⟨hf, f7⟩ := and2 hf
  obtain ⟨hf, f6⟩ := and2 hf
  obtain ⟨hf, f5⟩ := and2 hf
  obtain ⟨hf, f4⟩ := and2 hf
  obtain ⟨hf, f3⟩ := and2 hf
  obtain ⟨f1, f2⟩ := and2 hf
  unfold Ld.stat at hs
  obtain ⟨hs, s5⟩ := and2 hs
  obtain ⟨hs, s4⟩ := and2 hs
  obtain ⟨hs, s3⟩ := and2 hs
  obtain ⟨s1, s2⟩ := and2 hs
  have clf : ∀ {c : Nat} {p : Str × Option (Option Nat)}, L.cls[c]? = some p → (He.Fa.glo p.1).ok K = true ∧ (match p.2 with
    | none => L.ownB K c p.1
    | some k => (match k with
      | none => (He.Fa.exc p.1).ok K
      | some f => oexB K (He.ga K p.1) && (match L.flds[f]? with
        | some y => (He.Fa.noat p.1 y).ok K
        | none => false)) && ((List.range L.cls.length).all fun d => match L.nm.ex d with
          | none => true
          | some y => (He.Fa.exm p.1 y (L.tab.sub c d)).ok K)) = true := fun {c p} e => by
    have q := range_all f4 (lt_of e)
    rw [e] at q
    obtain ⟨x, k⟩ := p
    exact and2 q
  have own : ∀ {c : Nat} {x : Str}, L.nm.cl c = some x → L.ownB K c x = true := fun {c x} e => (clf (cl_of e)).2
  refine ⟨rfl, fun _ => rfl, fun _ => rfl, fun c x e => ?_, fun c c' x x' e e' => ?_, fun c x e e' => ?_, fun i d x e e' => ?_, fun x hx => ?_, fun f x e => ?_, fun c x e => ?_, fun c x f y e e' => ?_, fun c f x k e e' => ?_, fun c f e => ?_, fun c f x e => ?_, fun c x t e ht => ?_, fun c x t e ht => ?_⟩
  · obtain ⟨k, q⟩ := ex_of e
    show mg x = some (.ref (He.ga K (L.cln c)))
    rw [cln_of q]
    exact He.glo_ok X G0 (clf q).1
  · obtain ⟨k, q⟩ := ex_of e
    obtain ⟨k', q'⟩ := ex_of e'
    have z := range_all (and2 (clf q).2).2 (lt_of q')
    rw [e'] at z
    show PySem.W.exmOne K (.ref (He.ga K (L.cln c))) (.ref (He.ga K (L.cln c'))) = some (L.tab.sub c c')
    rw [cln_of q, cln_of q']
    exact of_decide_eq_true z
  · obtain ⟨k, q⟩ := ex_of e
    have ek : k = none := by
      have e' : (match L.cls[c]? with
        | some (_, some f) => some f
        | _ => none) = some none := e'
      rw [q] at e'
      exact Option.some.inj e'
    subst ek
    have z := (and2 (clf q).2).1
    have z : (PySem.W.excIn K (He.ga K x) He.veBase "ValueError.__new__" && (PySem.W.keepIn K (.ref (He.ga K x)) && (decide (PySem.W.subIn K (.ref (He.ga K x)) (.type "BaseException") = some true) && decide (PySem.W.typeIn K (.ref (He.ga K x)) = some (.type "type"))))) = true := z
    obtain ⟨z1, z2⟩ := and2 z
    obtain ⟨z2, z3⟩ := and2 z2
    obtain ⟨z3, z4⟩ := and2 z3
    show (∃ bm, _ ∧ PySem.W.excIn K (He.ga K (L.cln c)) bm "ValueError.__new__" = true) ∧ PySem.W.keepIn K (.ref (He.ga K (L.cln c))) = true ∧ PySem.W.subIn K (.ref (He.ga K (L.cln c))) (.type "BaseException") = some true ∧ PySem.W.typeIn K (.ref (He.ga K (L.cln c))) = some (.type "type")
    rw [cln_of q]
    exact ⟨⟨_, PySem.F.excBase_ValueError, z1⟩, z2, of_decide_eq_true z3, of_decide_eq_true z4⟩
  · have e : (L.gls[i]?).map (·.2) = some d := e
    have e' : (L.gls[i]?).map (·.1) = some x := e'
    obtain ⟨p, h1, h2⟩ := Option.map_eq_some_iff.mp e
    rw [h1] at e'
    cases e'
    subst h2
    have q := List.all_eq_true.mp f3 p (List.mem_of_getElem? h1)
    split at q
    · rename_i k ek
      obtain ⟨q1, q2⟩ := and2 q
      obtain ⟨p', e1, e2⟩ := Option.map_eq_some_iff.mp (of_decide_eq_true q1)
      refine ⟨.ref (He.ga K p.1), .ref (He.ga K p.1), He.glo_ok X G0 q2, rfl, fun m H => ?_⟩
      rw [ek]
      show V.ref (He.ga K p.1) = .ref (He.ga K (L.kln k))
      unfold Ld.kln
      rw [e1]
      dsimp only
      rw [e2]
    split at q
    · rename_i u eu
      obtain ⟨v, r, k⟩ := dvB_ok (g := L.g K) rfl 5 _ _ q
      exact ⟨u, v, PySem.W.mg_of X G0 eu, r, k⟩
    · cases q
  · exact He.free_ok X G0 (List.all_eq_true.mp f1 x hx)
  · refine ⟨?_, hd f x e⟩
    have e : (match L.fds[f]? with
      | some d => (match d.d.at_.2 with
        | none => some d.d.at_.1
        | some _ => none)
      | none => none) = some x := e
    split at e
    · rename_i d hd'
      split at e
      · rename_i e2
        cases e
        have q := List.all_eq_true.mp f2 d (List.mem_of_getElem? hd')
        rw [e2] at q
        have z := He.glo_ok X G0 q
        have ea : (L.g K).fa f = He.ga K d.d.at_.1 := by
          show He.fAd K (L.at_ f) = _
          unfold Ld.at_
          rw [hd']
          unfold He.fAd
          dsimp only
          rw [e2]
        rw [ea]
        exact z
      · cases e
    · cases e
  · have q := cl_of e
    have o := own e
    unfold Ld.ownB at o
    obtain ⟨o, o7⟩ := and2 o
    obtain ⟨o, o6⟩ := and2 o
    obtain ⟨o, o5⟩ := and2 o
    obtain ⟨o, o4⟩ := and2 o
    obtain ⟨o, o3⟩ := and2 o
    obtain ⟨o1, o2⟩ := and2 o
    have ce : (L.g K).ca c = He.ga K x := by
      show He.ga K (L.cln c) = _
      rw [cln_of q]
    rw [ce]
    have des : Ld.desB K = true := by
      rcases (Bool.or_eq_true _ _).mp f5 with z | z
      · have any : (L.cls.any fun p => p.2.isNone) = true := List.any_eq_true.mpr ⟨_, List.mem_of_getElem? q, rfl⟩
        rw [any] at z
        cases z
      · exact z
    obtain ⟨d1, d2⟩ := and2 des
    have o1 : (PySem.W.plainGet K (He.ga K x) Str.empty && (PySem.W.hasDictIn K (He.ga K x) && (PySem.W.plainOver K (He.ga K x) && He.eqO (PySem.W.findIn K (.ref (He.ga K x)) "__setattr__") (some (some (.builtin "object.__setattr__")))))) = true := o1
    obtain ⟨p1, p2⟩ := and2 o1
    obtain ⟨p2, p3⟩ := and2 p2
    obtain ⟨p3, p4⟩ := and2 p3
    exact ⟨He.glo_ok X G0 (clf q).1, ⟨p1, p2, p3, He.eqO_ok p4⟩, He.eqO_ok o2, of_decide_eq_true d1, of_decide_eq_true d2, of_decide_eq_true o3⟩
  · have q := cl_of e
    have o := own e
    unfold Ld.ownB at o
    obtain ⟨o, o7⟩ := and2 o
    obtain ⟨o, o6⟩ := and2 o
    obtain ⟨o, o5⟩ := and2 o
    obtain ⟨o, o4⟩ := and2 o
    show PySem.W.findIn K (.ref (He.ga K (L.cln c))) y = some none
    rw [cln_of q]
    exact He.eqO_ok (List.all_eq_true.mp o4 y (List.mem_of_getElem? e'))
  · have q := and2 (List.all_eq_true.mp s3 _ (mt_mem e))
    have z := q.2
    rw [Bool.not_eq_true'] at z
    have m : L.flds.contains x = true := by
      rw [List.contains_iff_mem]
      exact List.mem_of_getElem? e'
    rw [m] at z
    cases z
  · have m := lookup_mem e
    have q := List.all_eq_true.mp f7 _ m
    have a := of_decide_eq_true (List.all_eq_true.mp s4 _ m)
    have q : (PySem.W.makesIn K (He.ga K (L.cln c)) && (He.eqO (PySem.W.findIn K (.ref (He.ga K (L.cln c))) "__init__") (some (some (.ref (He.ma K (He.ga K (L.cln c)) "__init__")))) && (PySem.W.isFn K (.ref (He.ma K (He.ga K (L.cln c)) "__init__")) && PySem.W.keepIn K (.ref (He.ga K (L.cln c)))))) = true := q
    obtain ⟨q1, q2⟩ := and2 q
    obtain ⟨q2, q3⟩ := and2 q2
    obtain ⟨q3, q4⟩ := and2 q3
    have ea : (L.g K).fa f = He.ma K (He.ga K (L.cln c)) "__init__" := by
      show He.fAd K (L.at_ f) = _
      rw [a]
      rfl
    rw [ea]
    exact ⟨q1, He.eqO_ok q2, q3, q4⟩
  · have m := mt_mem e
    have q := List.all_eq_true.mp f6 _ m
    have a := of_decide_eq_true (and2 (List.all_eq_true.mp s3 _ m)).1
    have q : (He.eqO (PySem.W.findIn K (.ref (He.ga K (L.cln c))) x) (some (some (.ref (He.ma K (He.ga K (L.cln c)) x)))) && (PySem.W.isFn K (.ref (He.ma K (He.ga K (L.cln c)) x)) && PySem.W.keepIn K (.ref (He.ma K (He.ga K (L.cln c)) x)))) = true := q
    obtain ⟨q1, q2⟩ := and2 q
    obtain ⟨q2, q3⟩ := and2 q2
    have ea : (L.g K).fa f = He.ma K (He.ga K (L.cln c)) x := by
      show He.fAd K (L.at_ f) = _
      rw [a]
      rfl
    rw [ea]
    exact ⟨He.eqO_ok q1, q2, q3⟩
  · have q := cl_of e
    have o := own e
    unfold Ld.ownB at o
    obtain ⟨o, o7⟩ := and2 o
    obtain ⟨o, o6⟩ := and2 o
    obtain ⟨o, o5⟩ := and2 o
    show PySem.W.kitOne K (.ref (He.ga K (L.cln c))) _ = _
    rw [cln_of q]
    by_cases z : ∃ d, t = .own d
    · obtain ⟨d, rfl⟩ := z
      obtain ⟨y, hy⟩ := Option.isSome_iff_exists.mp (ht d rfl)
      have w := range_all o6 (lt_of (cl_of hy))
      rw [hy] at w
      exact of_decide_eq_true w
    · have mem : t ∈ allTys := by
        cases t <;> first | (unfold allTys; simp; done) | exact absurd ⟨_, rfl⟩ z
      exact of_decide_eq_true (List.all_eq_true.mp o5 t mem)
  · have q := cl_of e
    have o := own e
    unfold Ld.ownB at o
    obtain ⟨o, o7⟩ := and2 o
    show PySem.W.kitOne K _ (.ref (He.ga K (L.cln c))) = _
    rw [cln_of q]
    exact of_decide_eq_true (List.all_eq_true.mp o7 t ht)
theorem df_at (hs : L.stat = true) (hd : ∀ d ∈ L.defs, ∃ fd, FunD K d.name d.qual d.params d.body d.scope (d.dvs K) (d.kws K) (He.fAd K d.at_) fd) {f : Nat} {fn : Fn} (e : L.tab.fn f = some fn) : DefAt (L.g K) L.nm f fn := by
  have e : (L.fds[f]?).map (·.fn) = some fn := e
  obtain ⟨d, h1, h2⟩ := Option.map_eq_some_iff.mp e
  subst h2
  unfold Ld.stat at hs
  obtain ⟨hs, s5⟩ := and2 hs
  obtain ⟨hs, s4⟩ := and2 hs
  obtain ⟨hs, s3⟩ := and2 hs
  obtain ⟨s1, s2⟩ := and2 hs
  have q := List.all_eq_true.mp s2 d (List.mem_of_getElem? h1)
  obtain ⟨q, k8⟩ := and2 q
  obtain ⟨q, k7⟩ := and2 q
  obtain ⟨q, k6⟩ := and2 q
  obtain ⟨q, k5⟩ := and2 q
  obtain ⟨q, k4⟩ := and2 q
  obtain ⟨q, k3⟩ := and2 q
  obtain ⟨k1, k2⟩ := and2 q
  obtain ⟨fd, F⟩ := hd d.d (List.mem_append_left _ (List.mem_map_of_mem (List.mem_of_getElem? h1)))
  have e2 : d.d.kws K = [] := by unfold He.DefD.kws; rw [List.isEmpty_iff.mp k4]; rfl
  rw [e2] at F
  have ea : He.fAd K d.d.at_ = (L.g K).fa f := by
    show _ = He.fAd K (L.at_ f)
    unfold Ld.at_
    rw [h1]
  rw [ea] at F
  have Sc := scB_ok k1
  have en : L.nm.df f = d.df := by
    show (match L.fds[f]? with
      | some d => d.df
      | none => []) = _
    rw [h1]
  rcases (Bool.or_eq_true _ _).mp k3 with k3 | k3
  · obtain ⟨k3, k9⟩ := and2 k3
    have e1 : d.d.dvs K = [] := by unfold He.DefD.dvs; rw [List.isEmpty_iff.mp k3]; rfl
    rw [e1] at F
    refine ⟨_, _, _, _, _, d.N, d.ps, [], [], fd, F, Sc, of_decide_eq_true k6, of_decide_eq_true k7, k8, paB_ok F Sc k2, fun ne => absurd ?_ ne⟩
    rw [en]
    exact List.isEmpty_iff.mp k9
  · split at k3
    · rename_i v y ev ey
      obtain ⟨k3, k9⟩ := and2 k3
      have e1 : d.d.dvs K = [v.v K] := by unfold He.DefD.dvs; rw [ev]; rfl
      rw [e1] at F
      have pa := k2
      unfold paB at pa
      obtain ⟨pa, p5⟩ := and2 pa
      obtain ⟨pa, p4⟩ := and2 pa
      obtain ⟨pa, p3⟩ := and2 pa
      obtain ⟨p1, p2⟩ := and2 pa
      have nd : d.ps.Nodup := by
        rw [← Sc.pre]
        exact List.Sublist.nodup (List.take_sublist _ _) Sc.nd
      obtain ⟨b1, ds, b2, b3⟩ := binds_one F (by intro z; rw [z] at k9; cases k9) nd (List.isEmpty_iff.mp p1) (of_decide_eq_true p2) (List.isEmpty_iff.mp p3) (Option.isNone_iff_eq_none.mp p4) (Option.isNone_iff_eq_none.mp p5)
      refine ⟨_, _, _, _, _, d.N, d.ps, _, [], fd, F, Sc, of_decide_eq_true k6, of_decide_eq_true k7, k8, b1, fun _ => ⟨ds, _, b2, b3, fun m H => ?_⟩⟩
      rw [en, ey]
      exact .one (dvD_ok k3)
    · cases k3
theorem kon_at (hf : L.facts K = true) (hk : ∀ p ∈ L.kons, ∃ es n, KDict K w (He.ga K p.1) es n) {k : Nat} (z : L.tab.kon k ≠ []) : KonAt (L.g K) L.tab w k := by
  unfold Ld.facts at hf
  obtain ⟨hf, f9⟩ := and2 hf
  have ek : L.tab.kon k = (match L.kons[k]? with
    | some p => p.2
    | none => []) := rfl
  cases e : L.kons[k]? with
  | none =>
    rw [ek, e] at z
    exact absurd rfl z
  | some p =>
    have mem := List.mem_of_getElem? e
    have ea : (L.g K).ka k = He.ga K p.1 := by
      show He.ga K (L.kln k) = _
      unfold Ld.kln
      rw [e]
    have ev : L.tab.kon k = p.2 := by rw [ek, e]
    obtain ⟨es, n, D1⟩ := hk p mem
    refine ⟨⟨es, n, by rw [ea]; exact D1⟩, fun x => ?_, ⟨_, by rw [ea]; exact D1.at_, rfl⟩⟩
    have q := List.all_eq_true.mp f9 p mem
    unfold konB at q
    rw [D1.at_] at q
    obtain ⟨q, q3⟩ := and2 q
    obtain ⟨_, q2⟩ := and2 q
    obtain ⟨i1, i2⟩ := konB_find (g := L.g K) rfl x es.toList p.2 (of_decide_eq_true q2) q3
    rw [ea, ev]
    show ∃ r, PySem.W.nsIn K (He.ga K p.1) _ = some r ∧ _
    unfold PySem.W.nsIn
    rw [D1.at_]
    dsimp only
    cases c : getC p.2 (.str x) with
    | none =>
      rw [c] at i2
      rw [show es.toList.find? _ = none from i2]
      dsimp only
      rw [i1]
      exact ⟨none, rfl, rfl⟩
    | some d =>
      rw [c] at i2
      obtain ⟨e', v, j1, j2, j3⟩ := i2
      rw [j1]
      exact ⟨_, rfl, _, v, rfl, j2, j3⟩
theorem top_ok {base : Heap} (hk : ∀ p ∈ L.kons, ∃ es n, KDict K w (He.ga K p.1) es n) (X : K.In h) (G0 : h.Ns mainGlobals mg) (hf : L.facts K = true) (hs : L.stat = true) (hd : ∀ d ∈ L.defs, ∃ fd, FunD K d.name d.qual d.params d.body d.scope (d.dvs K) (d.kws K) (He.fAd K d.at_) fd) : TopOk (L.g K) L.tab L.nm P w mg base := by
  have hf0 := hf
  have hs0 := hs
  unfold Ld.facts at hf
  obtain ⟨hf, f9⟩ := and2 hf
  obtain ⟨hf, f8⟩ := and2 hf
  obtain ⟨hf, f7⟩ := and2 hf
  obtain ⟨hf, f6⟩ := and2 hf
  obtain ⟨hf, f5⟩ := and2 hf
  obtain ⟨hf, f4⟩ := and2 hf
  unfold Ld.stat at hs
  obtain ⟨hs, s5⟩ := and2 hs
  obtain ⟨hs, s4⟩ := and2 hs
  obtain ⟨hs, s3⟩ := and2 hs
  obtain ⟨s1, s2⟩ := and2 hs
  refine ⟨top_at X G0 hf0 hs0 fun f x e => ?_, ⟨fun k z => kon_at hf0 hk z, fun f f' x e e' => nodup_ix (of_decide_eq_true s1) e e'⟩, ⟨fun c x f y e e' e2 => ?_, fun c x f e e' => ?_⟩, fun f fn e => df_at hs0 hd e⟩
  · have e : (match L.fds[f]? with
      | some d => (match d.d.at_.2 with
        | none => some d.d.at_.1
        | some _ => none)
      | none => none) = some x := e
    split at e
    · rename_i d hd'
      obtain ⟨fd, F⟩ := hd d.d (List.mem_append_left _ (List.mem_map_of_mem (List.mem_of_getElem? hd')))
      have ea : He.fAd K d.d.at_ = (L.g K).fa f := by
        show _ = He.fAd K (L.at_ f)
        unfold Ld.at_
        rw [hd']
      rw [← ea]
      exact F.kp
    · cases e
  · obtain ⟨k, q⟩ := ex_of e
    have ek : k = some f := by
      have e' : (match L.cls[c]? with
        | some (_, some f) => some f
        | _ => none) = some (some f) := e'
      rw [q] at e'
      exact Option.some.inj e'
    subst ek
    have e2 : L.flds[f]? = some y := e2
    have z := range_all f4 (lt_of q)
    rw [q] at z
    obtain ⟨_, z⟩ := and2 z
    obtain ⟨z, _⟩ := and2 z
    dsimp only at z
    rw [e2] at z
    obtain ⟨z1, z2⟩ := and2 z
    have ce : (L.g K).ca c = He.ga K x := by
      show He.ga K (L.cln c) = _
      rw [cln_of q]
    have T0 := oexB_ok z1
    have y5 := range_all s5 (lt_of q)
    rw [q] at y5
    dsimp only at y5
    split at y5
    · rename_i d s p el
      rw [e2] at y5
      obtain ⟨y5, y1⟩ := and2 y5
      obtain ⟨y5, y2⟩ := and2 y5
      obtain ⟨y5, y3⟩ := and2 y5
      obtain ⟨y4, y5⟩ := and2 y5
      have m := lookup_mem el
      obtain ⟨fd, F⟩ := hd d (List.mem_append_right _ (List.mem_map_of_mem (f := fun p => p.2.1) m))
      have e1 : d.dvs K = [] := by unfold He.DefD.dvs; rw [List.isEmpty_iff.mp y3]; rfl
      have e2 : d.kws K = [] := by unfold He.DefD.kws; rw [List.isEmpty_iff.mp y2]; rfl
      rw [e1, e2] at F
      have Sc := scB_ok y4
      have f8 := and2 (List.all_eq_true.mp f8 _ m)
      rw [ce]
      refine ⟨T0, He.fAd K d.at_, fd, [s, p], ?_, of_decide_eq_true f8.1, xi_fn F Sc rfl y1 T0 (He.eqO_ok z2), paB_ok F Sc y5⟩
      have f9 := He.eqO_ok f8.2
      dsimp only at f9
      rw [cln_of q] at f9
      exact f9
    · cases y5
  · obtain ⟨k, q⟩ := ex_of e
    have ek : k = some f := by
      have e' : (match L.cls[c]? with
        | some (_, some f) => some f
        | _ => none) = some (some f) := e'
      rw [q] at e'
      exact Option.some.inj e'
    subst ek
    have z := range_all f4 (lt_of q)
    rw [q] at z
    obtain ⟨_, z⟩ := and2 z
    obtain ⟨z, _⟩ := and2 z
    dsimp only at z
    obtain ⟨_, z⟩ := and2 z
    show (L.flds[f]?).isSome = true
    split at z
    · rename_i e; rw [e]; rfl
    · cases z
end
end Y
set_option linter.all false
set_option maxHeartbeats 4000000
set_option maxRecDepth 100000
namespace Y
open PySem PySem.Spec PyProof.Rows L2 RZ
def Told (L : Ld) (w : World) (h : Heap) : Prop := ∃ K : PySem.W.Frag, K.In h ∧ L.facts K = true ∧ (∀ d ∈ L.defs, ∃ fd, FunD K d.name d.qual d.params d.body d.scope (d.dvs K) (d.kws K) (He.fAd K d.at_) fd) ∧ ∀ p ∈ L.kons, ∃ es n, KDict K w (He.ga K p.1) es n
theorem told_of {L : Ld} {w : World} {h : Heap} (y : (He.hookX 5 [] L.defs L.tabs [] L.facts).says w h) : Told L w h := by
  obtain ⟨K, X, c⟩ := y
  refine ⟨K, X, c.more, fun d hd => c.t.d.defs hd, fun p hp => ?_⟩
  obtain ⟨i, l, e⟩ := List.getElem_of_mem hp
  exact c.t.tab i (t := ((fun K => He.ga K p.1), p.2.map fun q => (⟨q.1.toArray⟩ : Str))) (by
    unfold Ld.tabs
    rw [List.getElem?_map, List.getElem?_eq_getElem l, e]
    rfl)
theorem walk_y {l : PySem.W.OpenLaw} {m k : Nat} {q : Program} {loose : List Str} {XP : (Str → Option Value) → Heap → Prop} {YP : World → Heap → Prop} {d : DefRec} {x : Str} (L : Ld) (i : Nat) {e : Fd} (hn : l.most = some m) (hn2 : m ≤ sizeLine) (hdf : d.params.defaults = []) (hr : Room (2 * k + 4) callerA)
    (hs : L.stat = true) (he : L.fds[i]? = some e) (hat : e.d.at_ = (d.name, none)) (hps : e.ps = [x]) (hdl : e.d.dfl = []) (hY : ∀ w h, YP w h → Told L w h)
    (hlaw : ∀ ns : List Int, ns.length ≤ m → Call L.tab (k + 1) i [.ref 0] (st0 ns) (fun d _ => d = .bl true) fun _ _ => False) : PySem.W.WalkO q loose XP YP l.row.toRowW d [] (fun f vs => PySem.call f vs) := by
  refine Att.attach_call hn hdf ?_
  intro w s0 s1 mg mb fa o pm cd doc a vs ns G0 Y0 ho hd hcd hmg hobj hints hlen hg
  obtain ⟨K, KX, hf, hD, hkon⟩ := hY w _ Y0
  obtain ⟨fd, F⟩ := hD e.d (List.mem_append_left _ (List.mem_map_of_mem (List.mem_of_getElem? he)))
  have fe : He.fAd K e.d.at_ = fa := by
    have q := List.all_eq_true.mp (and2 (and2 (and2 (and2 (and2 (and2 (and2 (and2 hf).1).1).1).1).1).1).1).2 e (List.mem_of_getElem? he)
    have z : (He.Fa.glo d.name).ok K = true := by
      rw [hat] at q
      exact q
    have z2 := He.glo_ok KX G0.T.g z
    rw [hmg] at z2
    rw [hat]
    exact (Value.ref.inj (Option.some.inj z2)).symm
  have ge : (L.g K).fa i = fa := by
    rw [← fe]
    show He.fAd K (L.at_ i) = _
    unfold Ld.at_
    rw [he]
  have s2 := List.all_eq_true.mp (and2 (and2 (and2 (and2 hs).1).1).1).2 e (List.mem_of_getElem? he)
  obtain ⟨z, k8⟩ := and2 s2
  obtain ⟨z, k7⟩ := and2 z
  obtain ⟨z, k6⟩ := and2 z
  obtain ⟨z, k5⟩ := and2 z
  obtain ⟨z, k4⟩ := and2 z
  obtain ⟨z, k3⟩ := and2 z
  obtain ⟨k1, k2⟩ := and2 z
  have e1 : e.d.dvs K = [] := by unfold He.DefD.dvs; rw [hdl]; rfl
  have e2 : e.d.kws K = [] := by unfold He.DefD.kws; rw [List.isEmpty_iff.mp k4]; rfl
  rw [e1, e2, fe] at F
  have Sc := scB_ok k1
  rw [hps] at Sc k2 k6
  have b := paB_ok F Sc k2
  have tf : L.tab.fn i = some e.fn := by
    show (L.fds[i]?).map (·.fn) = _
    rw [he]
    rfl
  refine law_call (sp := spF (L.g K) (Call L.tab (k + 1)) i) (fd := fd) (x := x) (CX := L2.CX l.prog w) KX G0.T.g G0.T.b G0.T.builtins G0.T.nolimit hg hobj hints (Nat.le_trans hlen hn2) hr (fun base kb nb => ?_) (fun s u => ?_) (fun H hO hS => ?_) fun H e s' ⟨_, _, _, _, _, _, _, _, _, _, _, _, z⟩ => z
  · have TO := top_ok (L := L) (P := l.prog) (w := w) (base := base) hkon kb nb hf hs hD
    have q := fn_ok TO (k := k) (all_ok TO k) tf (by rw [ge]; exact F) Sc (of_decide_eq_true k6) (of_decide_eq_true k7) k8
    rw [ge] at q
    exact q
  · exact paB_any F Sc k2 s [u] rfl
  · exact sp_law hO hS (hlaw ns hlen)
end Y
set_option Elab.async false
set_option linter.all false
set_option maxRecDepth 100000
namespace Y
open PySem PySem.W PySem.Calls PyProof.Rows HandSHeadRun
def RunA (r : OpenRow) (M : Nat) (w : World) : Prop := ∀ os : OsState, (endF (stepQ (denQ tabQ) r.prog w) M r.prog w os).map (fun s => looksF r.prog (boot_heap w.params) s.abs) = some true
def RunB (r : OpenRow) (q : Program) (M : Nat) (loose : List PySem.Str) (w : World) : Prop := ∀ os : OsState, (endF (stepQ (denQ tabQ) r.prog w) M r.prog w os).map (fun s => seenQ q loose (importedModules r.prog.main.body) (fun s => xlAt q [] s && recOk r.toRowW.records s) s.abs) = some (openGood q loose)
def RunC (r : OpenRow) (H : Hook) (ob : SharedT → H.α) (M : Nat) (w : World) : Prop := ∀ os : OsState, (endF (stepQ (denQ tabQ) r.prog w) M r.prog w os).map (fun s => ob s) = some (H.val w)
theorem map3 {α β γ δ : Type} {o : Option α} {f : α → β} {g : α → γ} {h : α → δ} {b : β} {c : γ} {d : δ} (h1 : o.map f = some b) (h2 : o.map g = some c) (h3 : o.map h = some d) : o.map (fun s => (f s, g s, h s)) = some (b, c, d) := by
  cases o with
  | none => cases h1
  | some s =>
    injection h1 with h1
    injection h2 with h2
    injection h3 with h3
    show some (f s, g s, h s) = _
    rw [h1, h2, h3]
theorem run_parts {r : OpenRow} {q : Program} {H : Hook} {ob : SharedT → H.α} {M : Nat} {loose : List PySem.Str} {w : World} (h1 : RunA r M w) (h2 : RunB r q M loose w) (h3 : RunC r H ob M w) : RunEq r q H ob M loose w := fun os => map3 (h1 os) (h2 os) (h3 os)
end Y
set_option linter.all false
set_option maxHeartbeats 4000000
set_option maxRecDepth 100000
namespace Y
theorem call_go {T : Tab} {k f : Nat} {ds : List D} {st : Store} {Q : QE} {X : QX} (fn : Fn) (h : T.fn f = some fn) (hl : ds.length = fn.np)
    (b : wpB T (Call T k) none fn.body (ds.map some ++ List.replicate (fn.ns - fn.np) none) st ⟨fun _ s => Q .non s, Q, fun _ _ => False, fun _ _ => False, fun e _ s => X e s⟩) : Call T (k + 1) f ds st Q X := by
  unfold Call
  rw [h]
  exact ⟨hl, b⟩
theorem getV_0 (d : D) (env : Env) (Q : D → Prop) : getV (some d :: env) 0 Q = Q d := rfl
theorem getV_s (a : Option D) (env : Env) (i : Nat) (Q : D → Prop) : getV (a :: env) (i + 1) Q = getV env i Q := by
  unfold getV
  rw [List.getElem?_cons_succ]
theorem set_0 {α : Type} (a b : α) (l : List α) : (a :: l).set 0 b = b :: l := rfl
theorem set_s {α : Type} (a b : α) (l : List α) (i : Nat) : (a :: l).set (i + 1) b = a :: l.set i b := rfl
theorem bind_nm (i : Nat) (d : D) (env : Env) : bindT (.nm i) d env = some (env.set i (some d)) := rfl
end Y
set_option linter.all false
set_option maxHeartbeats 4000000
set_option maxRecDepth 100000
namespace Y
section
variable {T : Tab} {C : Calls} {hx : Option Exc} {env : Env} {st : Store} {X : QX}
section
variable {Q : QE}
theorem go_var {i : Nat} (h : getV env i fun d => Q d st) : wpE T C hx (.var i) env st Q X := h
theorem go_con {d : D} (h : Q d st) : wpE T C hx (.con d) env st Q X := h
theorem go_glo {i : Nat} {d : D} (e : T.glo i = some d) (h : Q d st) : wpE T C hx (.glo i) env st Q X := by
  unfold wpE
  rw [e]
  exact h
theorem go_bin {o : Op} {a b : E} (h : wpE T C hx a env st (fun x s1 => wpE T C hx b env s1 (fun y s2 => binQ s2 o x y Q) X) X) : wpE T C hx (.bin o a b) env st Q X := h
theorem go_neg {a : E} {i : Int} (h : Q (.int (-i)) st) : wpE T C hx (.neg (.con (.int i))) env st Q X := h
theorem go_cmp {o : Cm} {a b : E} (h : wpE T C hx a env st (fun x s1 => wpE T C hx b env s1 (fun y s2 => cmpQ T s2 o x y fun b => Q (.bl b) s2) X) X) : wpE T C hx (.cmp o a b) env st Q X := h
theorem go_chain {o o' : Cm} {a b c : E} (h : wpE T C hx a env st (fun x s1 => wpE T C hx b env s1 (fun y s2 => cmpQ T s2 o x y fun k => if k = true then wpE T C hx c env s2 (fun z s3 => cmpQ T s3 o' y z fun b => Q (.bl b) s3) X else Q (.bl false) s2) X) X) : wpE T C hx (.chain o o' a b c) env st Q X := h
theorem go_isN {a : E} (h : wpE T C hx a env st (fun x s1 => Q (.bl (decide (x = .non))) s1) X) : wpE T C hx (.isN a) env st Q X := h
theorem go_and {a b : E} (h : wpE T C hx a env st (fun x s1 => (match x with
    | .bl c => if c = true then wpE T C hx b env s1 Q X else Q (.bl false) s1
    | _ => False)) X) : wpE T C hx (.and a b) env st Q X := h
theorem go_or {a b : E} (h : wpE T C hx a env st (fun x s1 => (match x with
    | .bl c => if c = true then Q (.bl true) s1 else wpE T C hx b env s1 Q X
    | _ => False)) X) : wpE T C hx (.or a b) env st Q X := h
theorem go_not {a : E} (h : wpE T C hx a env st (fun x s1 => (match x with
    | .bl c => Q (.bl (!c)) s1
    | _ => False)) X) : wpE T C hx (.not a) env st Q X := h
theorem go_call {f : Nat} {as : A} {df : List D} (h : wpA T C none as env st (fun ds s1 => C f (ds ++ df) s1 Q X) X) : wpE T C none (.call f as df) env st Q X := ⟨rfl, h⟩
theorem go_pr {p : Pr} {as : A} (h : wpA T C none as env st (fun ds s1 => prQ p ds s1 Q) X) : wpE T C none (.pr p as) env st Q X := ⟨rfl, h⟩
theorem go_me {m : Me} {o : E} {as : A} (h : wpE T C hx o env st (fun x s1 => meOk m s1 x ∧ wpA T C hx as env s1 (fun ds s2 => meQ m x ds s2 Q) X) X) : wpE T C hx (.me m o as) env st Q X := h
theorem go_isi {a : E} {ts : List Ty} (h : wpE T C hx a env st (fun x s1 => hasTy s1 x = true ∧ Q (.bl (ts.any fun t => isTy T (tyOf s1 x) t)) s1) X) : wpE T C hx (.isi a ts) env st Q X := h
theorem go_idx {a b : E} (h : wpE T C hx a env st (fun x s1 => wpE T C hx b env s1 (fun y s2 => idxQ T s2 x y Q) X) X) : wpE T C hx (.idx a b) env st Q X := h
theorem go_sli {a lo hi : E} (h : wpE T C hx a env st (fun x s1 => wpE T C hx lo env s1 (fun l s2 => partQ l fun l' => wpE T C hx hi env s2 (fun u s3 => partQ u fun u' => sliQ s3 x l' u' Q) X) X) X) : wpE T C hx (.sli a lo hi) env st Q X := h
theorem go_abs0 (h : Q .non st) : wpE T C hx .abs0 env st Q X := h
theorem go_tup {as : A} (h : wpA T C hx as env st (fun ds s1 => Q (.tup ds) s1) X) : wpE T C hx (.tup as) env st Q X := h
theorem go_lst {as : A} (h : wpA T C hx as env st (fun ds s1 => Q (.ref s1.length) (s1 ++ [.lst ds])) X) : wpE T C hx (.lst as) env st Q X := h
theorem go_fstr {as : A} (h : wpF T C hx as env st [] (fun y s1 => Q (.str y) s1) X) : wpE T C hx (.fstr as) env st Q X := h
end
section
variable {Q : Bool → Store → Prop}
theorem go_Tcmp {o : Cm} {a b : E} (h : wpE T C hx a env st (fun x s1 => wpE T C hx b env s1 (fun y s2 => cmpQ T s2 o x y fun k => Q k s2) X) X) : wpT T C hx (.cmp o a b) env st Q X := h
theorem go_Tchain {o o' : Cm} {a b c : E} (h : wpE T C hx a env st (fun x s1 => wpE T C hx b env s1 (fun y s2 => cmpQ T s2 o x y fun k => if k = true then wpE T C hx c env s2 (fun z s3 => cmpQ T s3 o' y z fun b => Q b s3) X else Q false s2) X) X) : wpT T C hx (.chain o o' a b c) env st Q X := h
theorem go_TisN {a : E} (h : wpE T C hx a env st (fun x s1 => Q (decide (x = .non)) s1) X) : wpT T C hx (.isN a) env st Q X := h
theorem go_Tand {a b : E} (h : wpT T C hx a env st (fun k s1 => if k = true then wpT T C hx b env s1 Q X else Q false s1) X) : wpT T C hx (.and a b) env st Q X := h
theorem go_Tor {a b : E} (h : wpT T C hx a env st (fun k s1 => if k = true then Q true s1 else wpT T C hx b env s1 Q X) X) : wpT T C hx (.or a b) env st Q X := h
theorem go_Tnot {a : E} (h : wpT T C hx a env st (fun k s1 => Q (!k) s1) X) : wpT T C hx (.not a) env st Q X := h
theorem go_Ttv {a : E} (h : wpE T C hx a env st (fun x s1 => truQ s1 x fun k => Q k s1) X) : wpT T C hx (.tv a) env st Q X := h
end
section
variable {Q : List D → Store → Prop}
theorem go_nil (h : Q [] st) : wpA T C hx .nil env st Q X := h
theorem go_cons {e : E} {as : A} (h : wpE T C hx e env st (fun d s1 => wpA T C hx as env s1 (fun ds s2 => Q (d :: ds) s2) X) X) : wpA T C hx (.cons e as) env st Q X := h
end
theorem go_Fnil {acc : List Nat} {Q : List Nat → Store → Prop} (h : Q acc st) : wpF T C hx .nil env st acc Q X := h
theorem go_Fcons {e : E} {as : A} {acc : List Nat} {Q : List Nat → Store → Prop} (h : wpE T C hx e env st (fun d s1 => fmtQ d fun y => (acc ++ y).length ≤ line ∧ wpF T C hx as env s1 (acc ++ y) Q X) X) : wpF T C hx (.cons e as) env st acc Q X := h
section
variable {k : K}
theorem go_Bnil (h : k.nx env st) : wpB T C hx .nil env st k := h
theorem go_Bcons {s : S} {b : B} (h : wpS T C hx s env st { k with nx := fun e s' => wpB T C hx b e s' k }) : wpB T C hx (.cons s b) env st k := h
theorem go_asg {i : Nat} {e : E} (h : wpE T C hx e env st (fun d s1 => k.nx (env.set i (some d)) s1) fun x s1 => k.xc x env s1) : wpS T C hx (.asg (.nm i) e) env st k := ⟨trivial, h⟩
theorem go_seti {o i e : E} (h : wpE T C hx e env st (fun v s1 => wpE T C hx o env s1 (fun x s2 => wpE T C hx i env s2 (fun y s3 => setQ s3 x y v fun s4 => k.nx env s4) fun x s1 => k.xc x env s1) fun x s1 => k.xc x env s1) fun x s1 => k.xc x env s1) : wpS T C hx (.seti o i e) env st k := h
theorem go_exp {e : E} (h : wpE T C hx e env st (fun _ s1 => k.nx env s1) fun x s1 => k.xc x env s1) : wpS T C hx (.exp e) env st k := h
theorem go_ret {e : E} (h : wpE T C hx e env st (fun d s1 => k.rt d s1) fun x s1 => k.xc x env s1) : wpS T C hx (.ret e) env st k := h
theorem go_if {c : E} {a b : B} (h : wpT T C hx c env st (fun t s1 => if t = true then wpB T C hx a env s1 k else wpB T C hx b env s1 k) fun x s1 => k.xc x env s1) : wpS T C hx (.ifS c a b) env st k := h
theorem go_for {tg : Tg} {it : E} {b : B} (h : wpI T C none it env st (fun j s1 => ∃ n, forN j tg (fun e s k' => wpB T C none b e s k') k n 0 env s1) fun x s1 => k.xc x env s1) : wpS T C none (.forS tg it b) env st k := ⟨rfl, h⟩
end
theorem go_comp {Q : QE} {elt it : E} {tg : Tg} {cs : A} {own : List Nat} (h : wpI T C none it env st (fun j s1 => ∃ n, cmpN j tg (fun e s P => wpTs T C none cs e s P) (fun e s P => wpE T C none elt e s P (fun _ _ => False)) s1.length Q n 0 (wipeE env own) (s1 ++ [.lst []])) X) : wpE T C none (.comp elt tg it cs own) env st Q X := ⟨rfl, h⟩
theorem go_sq {a : E} {R : J → Store → Prop} (h : wpE T C hx a env st (fun x s1 => walkQ s1 x fun j => R j s1) X) : wpI T C hx (.sq a) env st R X := h
theorem go_enm {a : E} {R : J → Store → Prop} (h : wpE T C hx a env st (fun x s1 => enmQ s1 x fun j => R j s1) X) : wpI T C hx (.enm a) env st R X := h
theorem go_rng1 {a : E} {R : J → Store → Prop} (h : wpE T C hx a env st (fun x s1 => (match x with
    | .int n => -(2 ^ 62) ≤ n ∧ n < 2 ^ 62 ∧ R (.seq (rngD 0 n.toNat)) s1
    | _ => False)) X) : wpI T C hx (.rng1 a) env st R X := h
theorem go_v0 {d : D} {env : Env} {Q : D → Prop} (h : Q d) : getV (some d :: env) 0 Q := h
theorem go_vs {a : Option D} {env : Env} {i : Nat} {Q : D → Prop} (h : getV env i Q) : getV (a :: env) (i + 1) Q := by
  rw [getV_s]
  exact h
section
variable {Q : QE} {a b i : Int}
theorem go_add (h : Q (.int (a + b)) st) : binQ st .add (.int a) (.int b) Q := h
theorem go_sub (h : Q (.int (a - b)) st) : binQ st .sub (.int a) (.int b) Q := h
theorem go_mul (s : (-(2 ^ 64) < a ∧ a < 2 ^ 64) ∨ (-(2 ^ 64) < b ∧ b < 2 ^ 64)) (h : Q (.int (a * b)) st) : binQ st .mul (.int a) (.int b) Q := ⟨s, h⟩
theorem go_fdiv (s : 0 < b ∧ b < 1073741824) (h : Q (.int (a / b)) st) : binQ st .fdiv (.int a) (.int b) Q := ⟨s.1, s.2, h⟩
theorem go_mod (s : 0 < b) (h : Q (.int (a % b)) st) : binQ st .mod (.int a) (.int b) Q := ⟨s, h⟩
theorem go_pow (s : 0 ≤ b ∧ b ≤ 1000000 ∧ a.natAbs < 2 ^ 64) (h : Q (.int (a ^ b.toNat)) st) : binQ st .pow (.int a) (.int b) Q := ⟨s.1, s.2.1, s.2.2, h⟩
theorem go_sadd {x y : List Nat} (s : x.length + y.length ≤ line) (h : Q (.str (x ++ y)) st) : binQ st .add (.str x) (.str y) Q := ⟨s, h⟩
theorem go_int (h : Q (.int i) st) : prQ .int [.int i] st Q := h
theorem go_intb {k : Bool} (h : Q (.int (if k then 1 else 0)) st) : prQ .int [.bl k] st Q := h
theorem go_abs (h : Q (.int (if i < 0 then -i else i)) st) : prQ .abs [.int i] st Q := h
theorem go_lens {x : List Nat} (s : x.length ≤ line) (h : Q (.int x.length) st) : prQ .len [.str x] st Q := ⟨s, h⟩
theorem go_lent {x : List D} (h : Q (.int x.length) st) : prQ .len [.tup x] st Q := h
theorem go_lenl {x : List D} {g : Nat} (e : st[g]? = some (.lst x)) (h : Q (.int x.length) st) : prQ .len [.ref g] st Q := by
  unfold prQ
  dsimp only
  rw [e]
  exact h
theorem go_lenf {x : List D} {g : Nat} (e : st[g]? = some (.fro x)) (h : Q (.int x.length) st) : prQ .len [.ref g] st Q := by
  unfold prQ
  dsimp only
  rw [e]
  exact h
theorem go_il {x : List D} {g j : Nat} {c : D} (e : st[g]? = some (.lst x)) (e2 : ixOf x.length i = some j) (e3 : x[j]? = some c) (h : Q c st) : idxQ T st (.ref g) (.int i) Q := by
  unfold idxQ
  dsimp only
  rw [e]
  dsimp only
  refine ⟨i, rfl, ?_⟩
  rw [e2]
  exact ⟨c, e3, h⟩
theorem go_if_ {x : List D} {g j : Nat} {c : D} (e : st[g]? = some (.fro x)) (e2 : ixOf x.length i = some j) (e3 : x[j]? = some c) (h : Q c st) : idxQ T st (.ref g) (.int i) Q := by
  unfold idxQ
  dsimp only
  rw [e]
  dsimp only
  refine ⟨i, rfl, ?_⟩
  rw [e2]
  exact ⟨c, e3, h⟩
theorem go_it {x : List D} {j : Nat} {c : D} (e2 : ixOf x.length i = some j) (e3 : x[j]? = some c) (h : Q c st) : idxQ T st (.tup x) (.int i) Q := by
  unfold idxQ
  dsimp only
  rw [e2]
  exact ⟨c, e3, h⟩
theorem go_set {x : List D} {g j : Nat} {v : D} {R : Store → Prop} (e : st[g]? = some (.lst x)) (e2 : ixOf x.length i = some j) (h : R (st.set g (.lst (x.set j v)))) : setQ st (.ref g) (.int i) v R := by
  unfold setQ
  dsimp only
  rw [e]
  exact ⟨i, j, rfl, e2, h⟩
end
section
variable {Q : Bool → Prop} {a b : Int}
theorem go_lt (h : Q (decide (a < b))) : cmpQ T st .lt (.int a) (.int b) Q := h
theorem go_le (h : Q (decide (a ≤ b))) : cmpQ T st .le (.int a) (.int b) Q := h
theorem go_gt (h : Q (decide (b < a))) : cmpQ T st .gt (.int a) (.int b) Q := h
theorem go_ge (h : Q (decide (b ≤ a))) : cmpQ T st .ge (.int a) (.int b) Q := h
theorem go_eqi (h : Q (decide (a = b))) : cmpQ T st .eq (.int a) (.int b) Q := h
theorem go_nei (h : Q (!decide (a = b))) : cmpQ T st .ne (.int a) (.int b) Q := h
theorem go_eqs {x y : List Nat} (h : Q (decide (x = y))) : cmpQ T st .eq (.str x) (.str y) Q := h
theorem go_nes {x y : List Nat} (h : Q (!decide (x = y))) : cmpQ T st .ne (.str x) (.str y) Q := h
theorem go_tb {k : Bool} (h : Q k) : truQ st (.bl k) Q := h
end
theorem go_t {p q : Prop} (h : p) : if true = true then p else q := h
theorem go_f {p q : Prop} (h : q) : if false = true then p else q := h
theorem go_dt {c : Prop} [Decidable c] {p q : Prop} (hc : c) (h : p) : if decide c = true then p else q := by rw [if_pos (decide_eq_true hc)]; exact h
theorem go_df {c : Prop} [Decidable c] {p q : Prop} (hc : ¬ c) (h : q) : if decide c = true then p else q := by rw [if_neg (by rw [decide_eq_false hc]; exact Bool.false_ne_true)]; exact h
theorem go_dc {c : Prop} [Decidable c] {p q : Prop} (h : c → p) (h' : ¬ c → q) : if decide c = true then p else q := by
  by_cases hc : c
  · exact go_dt hc (h hc)
  · exact go_df hc (h' hc)
theorem cmp_rng {T : Tab} {C : Calls} {elt : E} {i0 : Nat} {env : Env} {h : Nat} {Q : QE} (R : D → Prop) (Iv : Store → Prop) (n : Nat)
    (turn : ∀ (i : Nat) (st : Store) (acc : List D) (Q' : QE), Iv st → st[h]? = some (.lst acc) → (∀ d st', R d → st'[h]? = some (.lst acc) → Iv st' → (∀ acc', Iv (st'.set h (.lst acc'))) → Q' d st') → wpE T C none elt (env.set i0 (some (.int i))) st Q' fun _ _ => False)
    (done : ∀ (ds : List D) (st : Store), ds.length = n → (∀ d ∈ ds, R d) → st[h]? = some (.lst ds) → Iv st → Q (.ref h) st) (hn : n < line) :
    ∀ (m i : Nat) (acc : List D) (st : Store), m + i = n → acc.length = i → (∀ d ∈ acc, R d) → st[h]? = some (.lst acc) → Iv st →
      cmpN (.seq (rngD 0 n)) (.nm i0) (fun e s P => wpTs T C none .nil e s P) (fun e s P => wpE T C none elt e s P fun _ _ => False) h Q (m + 1) i env st
  | 0, i, acc, st, e, el, ha, eh, iv => by
    unfold cmpN
    have at_ : (J.seq (rngD 0 n)).at i st = some none := by
      show some ((rngD 0 n)[i]?) = some none
      unfold rngD
      rw [List.getElem?_eq_none (by simp; omega)]
    rw [at_]
    exact done acc st (by omega) ha eh iv
  | m + 1, i, acc, st, e, el, ha, eh, iv => by
    unfold cmpN
    have at_ : (J.seq (rngD 0 n)).at i st = some (some (.int i)) := by
      show some ((rngD 0 n)[i]?) = some (some (.int i))
      unfold rngD
      rw [List.getElem?_map, List.getElem?_range (by omega)]
      simp
    rw [at_]
    refine turn i st acc _ iv eh fun d st' r eh' iv' ks => ?_
    rw [eh']
    have lt : h < st'.length := (List.getElem?_eq_some_iff.mp eh').1
    refine ⟨by omega, cmp_rng R Iv n turn done hn m (i + 1) (acc ++ [d]) _ (by omega) (by simp [el]) (fun x hx => ?_) (List.getElem?_set_self lt) (ks _)⟩
    rcases List.mem_append.mp hx with z | z
    · exact ha x z
    · rw [List.mem_singleton.mp z]
      exact r
end
end Y
set_option linter.all false
set_option maxHeartbeats 4000000
set_option maxRecDepth 100000
namespace Y
open PySem
theorem join_y (a : List Nat) (ys : List (List Nat)) : (Txt.join ⟨a.toArray⟩ (ys.map fun y => ⟨y.toArray⟩)).cps.toList = TL.joinL a ys := by
  have h := TL.tl_join ⟨a.toArray⟩ (ys.map fun y => ⟨y.toArray⟩)
  rw [← TL.join_eq] at h
  have e : (ys.map fun y => (⟨y.toArray⟩ : Str)).map TL.tl = ys := by
    rw [List.map_map]
    exact List.map_id' ys
  rw [e] at h
  exact h
theorem split_y {s : Nat} (hs : s < 256) {parts : List (List Nat)} (hne : parts ≠ []) (hp : ∀ p ∈ parts, s ∉ p) : (Txt.split ⟨(TL.joinL [s] parts).toArray⟩ ⟨[s].toArray⟩).map (fun z => D.str z.cps.toList) = parts.map D.str := by
  have hk : (⟨[s].toArray⟩ : Str).cps.all (· < 256) = true := by simp [hs]
  have q := TL.split_join (y := ⟨[s].toArray⟩) (s := s) (S := []) rfl hk (parts := parts.map fun y => ⟨y.toArray⟩) (by simpa using hne) (fun p hm => by
    obtain ⟨z, hz, rfl⟩ := List.mem_map.mp hm
    exact hp z hz)
  have e : (⟨(TL.joinL [s] parts).toArray⟩ : Str) = Txt.join ⟨[s].toArray⟩ (parts.map fun y => ⟨y.toArray⟩) := by
    rw [← join_y]
  rw [e, q, List.map_map]
  rfl
section
variable {st : Store} {Q : QE}
theorem go_join {a : List Nat} {d : D} {ys : List (List Nat)} (e : seqOf st d = some (ys.map D.str)) (b : (ys.map List.length).sum + ys.length * a.length ≤ 16777216) (h : Q (.str (TL.joinL a ys)) st) : meQ .join (.str a) [d] st Q := by
  refine ⟨ys, e, b, ?_⟩
  rw [join_y]
  exact h
theorem go_split {s : Nat} {parts : List (List Nat)} (hs : s < 256) (hne : parts ≠ []) (hp : ∀ p ∈ parts, s ∉ p) (b : (TL.joinL [s] parts).length + 2 ≤ line) (h : Q (.ref st.length) (st ++ [.lst (parts.map D.str)])) : meQ .split (.str (TL.joinL [s] parts)) [.str [s]] st Q := by
  refine ⟨by simp, b, ?_⟩
  rw [split_y hs hne hp]
  exact h
theorem go_app {g : Nat} {xs : List D} {d : D} (e : st[g]? = some (.lst xs)) (b : xs.length < line) (h : Q .non (st.set g (.lst (xs ++ [d])))) : meQ .append (.ref g) [d] st Q := by
  unfold meQ
  dsimp only
  rw [e]
  exact ⟨b, h⟩
theorem go_is {T : Tab} {x : List Nat} {i : Int} {j c : Nat} (b : x.length ≤ line) (e2 : ixOf x.length i = some j) (e3 : x[j]? = some c) (h : Q (.str [c]) st) : idxQ T st (.str x) (.int i) Q := by
  refine ⟨b, ?_⟩
  rw [e2]
  exact ⟨c, e3, h⟩
theorem go_tol {g : Nat} {xs : List D} (e : st[g]? = some (.lst xs)) (h : Q (.tup xs) st) : prQ .tuple [.ref g] st Q := by
  unfold prQ
  dsimp only
  rw [e]
  exact h
theorem go_lol {g : Nat} {xs : List D} (e : st[g]? = some (.lst xs)) (h : Q (.ref st.length) (st ++ [.lst xs])) : prQ .list [.ref g] st Q := by
  unfold prQ
  dsimp only
  rw [e]
  exact h
end
theorem ix_pos {n : Nat} {i : Int} (h : 0 ≤ i) (l : i < n) : ixOf n i = some i.toNat := by
  unfold ixOf
  rw [if_pos h, if_pos l]
theorem joinL_len (a : List Nat) : ∀ ys : List (List Nat), (TL.joinL a ys).length ≤ (ys.map List.length).sum + ys.length * a.length
  | [] => by simp [TL.joinL]
  | [p] => by simp [TL.joinL]
  | p :: q :: r => by
    have h := joinL_len a (q :: r)
    show (p ++ (a ++ TL.joinL a (q :: r))).length ≤ _
    rw [List.length_append, List.length_append, List.map_cons, List.sum_cons, List.length_cons (a := p), Nat.succ_mul]
    omega
theorem line_eq : line = sizeLine := rfl
theorem go_bt {b : Bool} {p q : Prop} (e : b = true) (h : p) : if b = true then p else q := by rw [if_pos e]; exact h
theorem go_bf {b : Bool} {p q : Prop} (e : b = false) (h : q) : if b = true then p else q := by rw [if_neg (by rw [e]; exact Bool.false_ne_true)]; exact h
theorem go_fs {x : List Nat} {Q : List Nat → Prop} (b : x.length ≤ line) (h : Q x) : fmtQ (.str x) Q := ⟨b, h⟩
theorem go_fi {i : Int} {Q : List Nat → Prop} (b : i.natAbs.log2 < 1920) (h : Q (decI i)) : fmtQ (.int i) Q := ⟨b, h⟩
theorem go_stri {i : Int} {st : Store} {Q : QE} (b : i.natAbs.log2 < 1920) (h : Q (.str (decI i)) st) : prQ .str [.int i] st Q := ⟨b, h⟩
end Y
set_option linter.all false
set_option maxHeartbeats 4000000
set_option maxRecDepth 100000
namespace Y
theorem for_j {j : J} {tg : Tg} {body : Env → Store → K → Prop} {k : K} (n : Nat) (Iv : Nat → Env → Store → Prop)
    (bd : ∀ (i : Nat) (env : Env) (st : Store) (N : Env → Store → Prop), i < n → Iv i env st → (∀ e s, Iv (i + 1) e s → N e s) → ∃ d env', j.at i st = some (some d) ∧ bindT tg d env = some env' ∧ body env' st { k with nx := N, ct := N, bk := k.nx })
    (done : ∀ (env : Env) (st : Store), Iv n env st → j.at n st = some none ∧ k.nx env st) : ∀ (m i : Nat) (env : Env) (st : Store), m + i = n → Iv i env st → forN j tg body k (m + 1) i env st
  | 0, i, env, st, e, iv => by
    have e : i = n := by omega
    subst e
    unfold forN
    rw [(done env st iv).1]
    exact (done env st iv).2
  | m + 1, i, env, st, e, iv => by
    unfold forN
    obtain ⟨d, env', h1, h2, h3⟩ := bd i env st (forN j tg body k (m + 1) (i + 1)) (by omega) iv fun e' s' iv' => for_j n Iv bd done m (i + 1) e' s' (by omega) iv'
    rw [h1]
    dsimp only
    rw [h2]
    exact h3
theorem go_nins {T : Tab} {st : Store} {Q : Bool → Prop} {a b : List Nat} {r : Bool} (e : (!(PySem.Builtin.Str.occurrences ⟨b.toArray⟩ ⟨a.toArray⟩ 0 b.length 1).isEmpty) = r) (h : Q (!r)) : cmpQ T st .nin (.str a) (.str b) Q := by
  subst e
  exact h
theorem go_nint {T : Tab} {st : Store} {Q : Bool → Prop} {x : D} {ds : List D} {r : Bool} (f : flatD x = true) (fs : ds.all flatD = true) (e : inD x ds = r) (h : Q (!r)) : cmpQ T st .nin x (.tup ds) Q := by
  subst e
  cases x <;> first
    | exact ⟨f, fs, h⟩
    | cases f
theorem go_slil {st : Store} {Q : QE} {g : Nat} {xs ys : List D} {lo hi : Option Int} (e : st[g]? = some (.lst xs)) (c : cutL xs lo hi = ys) (h : Q (.ref st.length) (st ++ [.lst ys])) : sliQ st (.ref g) lo hi Q := by
  subst c
  unfold sliQ
  dsimp only
  rw [e]
  exact h
theorem go_ptS {i : Int} {Q : Option Int → Prop} (h : Q (some i)) : partQ (.int i) Q := h
theorem go_ptN {Q : Option Int → Prop} (h : Q none) : partQ .non Q := h
theorem at_enm {s : Store} {h i : Nat} {ds : List D} (e : s[h]? = some (.lst ds)) : J.at (.enm h) i s = some (ds[i]?.map fun d => .tup [.int i, d]) := by
  unfold J.at
  dsimp only
  rw [e]
theorem at_lst {s : Store} {h i : Nat} {ds : List D} (e : s[h]? = some (.lst ds)) : J.at (.lst h) i s = some ds[i]? := by
  unfold J.at
  dsimp only
  rw [e]
theorem meOk_l {m : Me} {s : Store} {g : Nat} {xs : List D} (e : s[g]? = some (.lst xs)) (ht : meT m = .list) : meOk m s (.ref g) := by
  unfold meOk
  dsimp only
  rw [e]
  exact ht
theorem enm_l {s : Store} {g : Nat} {xs : List D} {R : J → Prop} (e : s[g]? = some (.lst xs)) (h : R (.enm g)) : enmQ s (.ref g) R := by
  unfold enmQ
  dsimp only
  rw [e]
  exact h
theorem walk_l {s : Store} {g : Nat} {xs : List D} {R : J → Prop} (e : s[g]? = some (.lst xs)) (h : R (.lst g)) : walkQ s (.ref g) R := by
  unfold walkQ
  dsimp only
  rw [e]
  exact h
theorem isi_l {s : Store} {g : Nat} {xs : List D} (e : s[g]? = some (.lst xs)) : tyOf s (.ref g) = some .list ∧ hasTy s (.ref g) = true := by
  unfold tyOf hasTy
  dsimp only
  rw [e]
  exact ⟨rfl, rfl⟩
theorem set_last (st : Store) (o o' : O) : (st ++ [o]).set st.length o' = st ++ [o'] := by
  rw [List.set_append_right _ _ (Nat.le_refl _)]
  simp
end Y
set_option linter.all false
set_option maxHeartbeats 4000000
set_option maxRecDepth 100000
namespace Y
open PySem
universe u v
structure Tok {α : Sort u} (a : α) : Type where
def lz {α : Sort u} (a : α) (_ : Tok a) : α := a
theorem lz1 {α : Sort u} {β : Sort v} (f : α → β) (t : Tok f) (x : α) : lz f t x = f x := rfl
def ifL (b : Bool) (p q : Unit → Prop) : Prop := if b = true then p () else q ()
theorem z_ifT (p q : Unit → Prop) : ifL true p q = p () := by unfold ifL; rw [if_pos rfl]
theorem z_ifF (p q : Unit → Prop) : ifL false p q = q () := by unfold ifL; rw [if_neg Bool.false_ne_true]
theorem ifd {c : Prop} [Decidable c] {p q : Unit → Prop} (h : c → p ()) (h' : ¬ c → q ()) : ifL (decide c) p q := by
  by_cases hc : c
  · rw [decide_eq_true hc, z_ifT]; exact h hc
  · rw [decide_eq_false hc, z_ifF]; exact h' hc
theorem ifb {b : Bool} {p q : Unit → Prop} (h : b = true → p ()) (h' : b = false → q ()) : ifL b p q := by
  cases b
  · rw [z_ifF]; exact h' rfl
  · rw [z_ifT]; exact h rfl
theorem k_c0 : ((0 : Nat) : Int) = 0 := rfl
theorem k_c1 : ((0 + 1 : Nat) : Int) = 1 := rfl
theorem k_c2 : ((0 + 1 + 1 : Nat) : Int) = 2 := rfl
theorem k_c3 : ((0 + 1 + 1 + 1 : Nat) : Int) = 3 := rfl
theorem k_c4 : ((0 + 1 + 1 + 1 + 1 : Nat) : Int) = 4 := rfl
theorem k_c5 : ((0 + 1 + 1 + 1 + 1 + 1 : Nat) : Int) = 5 := rfl
theorem k_c6 : ((0 + 1 + 1 + 1 + 1 + 1 + 1 : Nat) : Int) = 6 := rfl
def fewF : Nat → List (Nat × D) → Prop
  | _, [] => True
  | 0, _ :: _ => False
  | n + 1, _ :: r => fewF n r
theorem fewF_iff : ∀ (n : Nat) (fs : List (Nat × D)), fewF n fs ↔ fs.length ≤ n
  | n, [] => by cases n <;> simp [fewF]
  | 0, _ :: _ => by simp [fewF]
  | n + 1, _ :: r => by
    show fewF n r ↔ _
    rw [fewF_iff n r, List.length_cons]
    omega
theorem k_few0 {n : Nat} : fewF n [] = True := by cases n <;> rfl
theorem k_fewS {n : Nat} {p : Nat × D} {r : List (Nat × D)} : fewF (n + 1) (p :: r) = fewF n r := rfl
theorem k_lkm {α : Type} {k j : Nat} {v : α} {r : List (Nat × α)} (h : (k == j) = false) : List.lookup k ((j, v) :: r) = List.lookup k r := by
  rw [List.lookup_cons, h]
theorem k_pf0 {f : Nat} {d : D} : putF f d [] = [(f, d)] := rfl
theorem k_pfh {f : Nat} {d x : D} {r : List (Nat × D)} : putF f d ((f, x) :: r) = (f, d) :: r := by unfold putF; rw [if_pos rfl]
theorem k_pfm {f j : Nat} {d x : D} {r : List (Nat × D)} (h : (j == f) = false) : putF f d ((j, x) :: r) = (j, x) :: putF f d r := by
  show (if j = f then _ else _) = _
  rw [if_neg (fun e => by rw [e] at h; simp at h)]
def clsO (o : Option O) : Option Nat := match o with
  | some (.ins c _) => some c
  | _ => none
theorem k_cls {st : Store} {h : Nat} : clsOf st (.ref h) = clsO st[h]? := by
  unfold clsOf clsO
  show (match st[h]? with | some (O.ins c _) => some c | _ => none) = _
  cases st[h]? with
  | none => rfl
  | some o => cases o <;> rfl
theorem k_clsO {c : Nat} {fs : List (Nat × D)} : clsO (some (.ins c fs)) = some c := rfl
def ks (T : Tab) (C : Calls) (hx : Option Exc) (b : B) (k : K) (_ : Tok k) : K := { k with nx := fun e s' => wpB T C hx b e s' k }
def kl (N : Env → Store → Prop) (k : K) (_ : Tok k) : K := { k with nx := N, ct := N, bk := k.nx }
def kc (Q : QE) (X : QX) (_ : Tok Q) (_ : Tok X) : K := ⟨fun _ s => Q .non s, Q, fun _ _ => False, fun _ _ => False, fun e _ s => X e s⟩
def kt (T : Tab) (C : Calls) (hs : Hs) (k : K) (_ : Tok k) : K := { k with xc := fun e env' s' => wpH T C hs e env' s' k }
def kh (k : K) (nm : Option Nat) (_ : Tok k) : K := ⟨fun e' s' => k.nx (unset nm e') s', k.rt, fun _ _ => False, fun _ _ => False, fun _ _ _ => False⟩
section
variable {T : Tab} {C : Calls} {hx : Option Exc} {b : B} {k : K} {t : Tok k} {N : Env → Store → Prop} {Q : QE} {X : QX} {tq : Tok Q} {tx : Tok X} {hs : Hs} {nm : Option Nat} {e : Env} {s : Store} {d : D} {x : Exc}
theorem ks_nx : (ks T C hx b k t).nx e s = wpB T C hx b e s k := rfl
theorem ks_rt : (ks T C hx b k t).rt d s = k.rt d s := rfl
theorem ks_bk : (ks T C hx b k t).bk e s = k.bk e s := rfl
theorem ks_ct : (ks T C hx b k t).ct e s = k.ct e s := rfl
theorem ks_xc : (ks T C hx b k t).xc x e s = k.xc x e s := rfl
theorem kl_nx : (kl N k t).nx e s = N e s := rfl
theorem kl_rt : (kl N k t).rt d s = k.rt d s := rfl
theorem kl_bk : (kl N k t).bk e s = k.nx e s := rfl
theorem kl_ct : (kl N k t).ct e s = N e s := rfl
theorem kl_xc : (kl N k t).xc x e s = k.xc x e s := rfl
theorem kc_nx : (kc Q X tq tx).nx e s = Q .non s := rfl
theorem kc_rt : (kc Q X tq tx).rt d s = Q d s := rfl
theorem kc_xc : (kc Q X tq tx).xc x e s = X x s := rfl
theorem kt_nx : (kt T C hs k t).nx e s = k.nx e s := rfl
theorem kt_rt : (kt T C hs k t).rt d s = k.rt d s := rfl
theorem kt_bk : (kt T C hs k t).bk e s = k.bk e s := rfl
theorem kt_ct : (kt T C hs k t).ct e s = k.ct e s := rfl
theorem kt_xc : (kt T C hs k t).xc x e s = wpH T C hs x e s k := rfl
theorem kh_nx : (kh k nm t).nx e s = k.nx (unset nm e) s := rfl
theorem kh_rt : (kh k nm t).rt d s = k.rt d s := rfl
end
theorem un_n {e : Env} : unset none e = e := rfl
theorem un_s {e : Env} {i : Nat} : unset (some i) e = e.set i none := rfl
def isNon : D → Bool
  | .non => true
  | _ => false
theorem isNon_eq (d : D) : decide (d = .non) = isNon d := by cases d <;> first | rfl | exact decide_eq_false (by intro h; cases h)
theorem isNon_1 : isNon .non = true := rfl
theorem isNon_2 {b} : isNon (.bl b) = false := rfl
theorem isNon_3 {b} : isNon (.int b) = false := rfl
theorem isNon_4 {b} : isNon (.str b) = false := rfl
theorem isNon_5 {b} : isNon (.tup b) = false := rfl
theorem isNon_6 {b} : isNon (.ref b) = false := rfl
theorem isNon_7 {b} : isNon (.kon b) = false := rfl
def boolQ (d : D) (F : Bool → Prop) : Prop := match d with
  | .bl c => F c
  | _ => False
theorem boolQ_1 {c F} : boolQ (.bl c) F = F c := rfl
def intQ (d : D) (F : Int → Prop) : Prop := match d with
  | .int c => F c
  | _ => False
theorem intQ_1 {c F} : intQ (.int c) F = F c := rfl
def optQ {α : Type} (o : Option α) (F : α → Prop) : Prop := match o with
  | some a => F a
  | none => False
theorem optQ_1 {α : Type} {a : α} {F} : optQ (some a) F = F a := rfl
def lstQ (o : Option O) (F : List D → Prop) : Prop := match o with
  | some (.lst a) => F a
  | _ => False
theorem lstQ_1 {a F} : lstQ (some (.lst a)) F = F a := rfl
def sqQ (o : Option O) (F : List D → Prop) : Prop := match o with
  | some (.lst a) => F a
  | some (.fro a) => F a
  | _ => False
theorem sqQ_1 {a F} : sqQ (some (.lst a)) F = F a := rfl
theorem sqQ_2 {a F} : sqQ (some (.fro a)) F = F a := rfl
def cntQ (o : Option O) (F : Nat → Prop) : Prop := match o with
  | some (.lst a) => F a.length
  | some (.fro a) => F a.length
  | some (.dic a) => F a.length
  | _ => False
theorem cntQ_1 {a F} : cntQ (some (.lst a)) F = F a.length := rfl
theorem cntQ_2 {a F} : cntQ (some (.fro a)) F = F a.length := rfl
theorem cntQ_3 {a F} : cntQ (some (.dic a)) F = F a.length := rfl
def dicQ (o : Option O) (F : List (D × D) → Prop) : Prop := match o with
  | some (.dic a) => F a
  | _ => False
theorem dicQ_1 {a F} : dicQ (some (.dic a)) F = F a := rfl
def insQ (o : Option O) (F : Nat → List (Nat × D) → Prop) : Prop := match o with
  | some (.ins c fs) => F c fs
  | _ => False
theorem insQ_1 {c a F} : insQ (some (.ins c a)) F = F c a := rfl
def getIx (xs : List D) (i : Int) (F : D → Prop) : Prop := match ixOf xs.length i with
  | some j => ∃ c, xs[j]? = some c ∧ F c
  | none => False
theorem getIx_of {xs : List D} {i : Int} {F : D → Prop} {j : Nat} {c : D} (e : ixOf xs.length i = some j) (e2 : xs[j]? = some c) : getIx xs i F = F c := by
  unfold getIx
  rw [e]
  dsimp only
  rw [e2]
  refine propext ⟨fun ⟨c', h, q⟩ => ?_, fun h => ⟨c, rfl, h⟩⟩
  cases h
  exact q
section
variable {a b c d e f g : D} {r : List D} {F : D → Prop}
theorem getIx_0 : getIx (a :: r) 0 F = F a := getIx_of (j := 0) (by unfold ixOf; rw [if_pos (by decide), if_pos (by simp)]; rfl) rfl
theorem getIx_1 : getIx (a :: b :: r) 1 F = F b := getIx_of (j := 1) (by unfold ixOf; rw [if_pos (by decide), if_pos (by simp; try omega)]; rfl) rfl
theorem getIx_2 : getIx (a :: b :: c :: r) 2 F = F c := getIx_of (j := 2) (by unfold ixOf; rw [if_pos (by decide), if_pos (by simp; try omega)]; rfl) rfl
theorem getIx_3 : getIx (a :: b :: c :: d :: r) 3 F = F d := getIx_of (j := 3) (by unfold ixOf; rw [if_pos (by decide), if_pos (by simp; try omega)]; rfl) rfl
theorem getIx_4 : getIx (a :: b :: c :: d :: e :: r) 4 F = F e := getIx_of (j := 4) (by unfold ixOf; rw [if_pos (by decide), if_pos (by simp; try omega)]; rfl) rfl
theorem getIx_5 : getIx (a :: b :: c :: d :: e :: f :: r) 5 F = F f := getIx_of (j := 5) (by unfold ixOf; rw [if_pos (by decide), if_pos (by simp; try omega)]; rfl) rfl
end
def ixrQ (o : Option O) (y : D) (F : D → Prop) : Prop := match o with
  | some (.lst xs) => ∃ i, y = .int i ∧ getIx xs i F
  | some (.fro xs) => ∃ i, y = .int i ∧ getIx xs i F
  | some (.dic kvs) => keyD y = true ∧ optQ (getK kvs y) F
  | _ => False
theorem ixrQ_1 {xs F} {i : Int} : ixrQ (some (.lst xs)) (.int i) F = getIx xs i F := propext ⟨fun ⟨j, e, h⟩ => by cases e; exact h, fun h => ⟨i, rfl, h⟩⟩
theorem ixrQ_2 {xs F} {i : Int} : ixrQ (some (.fro xs)) (.int i) F = getIx xs i F := propext ⟨fun ⟨j, e, h⟩ => by cases e; exact h, fun h => ⟨i, rfl, h⟩⟩
theorem ixrQ_3 {kvs F} {i : Int} : ixrQ (some (.dic kvs)) (.int i) F = optQ (getK kvs (.int i)) F := propext ⟨fun h => h.2, fun h => ⟨rfl, h⟩⟩
theorem ixrQ_4 {kvs F} {x : List Nat} : ixrQ (some (.dic kvs)) (.str x) F = optQ (getK kvs (.str x)) F := propext ⟨fun h => h.2, fun h => ⟨rfl, h⟩⟩
def strQ (o : Option O) (y v : D) (F : O → Prop) : Prop := match o with
  | some (.lst xs) => ∃ i, y = .int i ∧ (match ixOf xs.length i with
    | some j => F (.lst (xs.set j v))
    | none => False)
  | some (.dic kvs) => keyD y = true ∧ kvs.length < line ∧ F (.dic (putK kvs y v))
  | _ => False
def setIx (xs : List D) (i : Int) (v : D) (F : List D → Prop) : Prop := match ixOf xs.length i with
  | some j => F (xs.set j v)
  | none => False
theorem setIx_of {xs : List D} {i : Int} {v : D} {F : List D → Prop} {j : Nat} (e : ixOf xs.length i = some j) : setIx xs i v F = F (xs.set j v) := by
  unfold setIx
  rw [e]
section
variable {a b c d v : D} {r : List D} {F : List D → Prop}
theorem setIx_0 : setIx (a :: r) 0 v F = F (v :: r) := setIx_of (j := 0) (by unfold ixOf; rw [if_pos (by decide), if_pos (by simp)]; rfl)
theorem setIx_1 : setIx (a :: b :: r) 1 v F = F (a :: v :: r) := setIx_of (j := 1) (by unfold ixOf; rw [if_pos (by decide), if_pos (by simp; try omega)]; rfl)
theorem setIx_2 : setIx (a :: b :: c :: r) 2 v F = F (a :: b :: v :: r) := setIx_of (j := 2) (by unfold ixOf; rw [if_pos (by decide), if_pos (by simp; try omega)]; rfl)
end
def bindL : List Nat → List D → Env → (Env → Prop) → Prop
  | [], [], e, F => F e
  | i :: is, d :: ds, e, F => bindL is ds (e.set i (some d)) F
  | _, _, _, _ => False
def bindQ (tg : Tg) (d : D) (env : Env) (F : Env → Prop) : Prop := match bindT tg d env with
  | some env' => F env'
  | none => False
theorem bindQ_nm {i d env F} : bindQ (.nm i) d env F = F (env.set i (some d)) := rfl
theorem bindL_0 {e F} : bindL [] [] e F = F e := rfl
theorem bindL_1 {i is d ds e F} : bindL (i :: is) (d :: ds) e F = bindL is ds (e.set i (some d)) F := rfl
theorem bindL_eq : ∀ (is : List Nat) (ds : List D) (env : Env) (F : Env → Prop), (match (if ds.length = is.length then some ((is.zip ds).foldl (fun e p => e.set p.1 (some p.2)) env) else none) with | some env' => F env' | none => False) = bindL is ds env F
  | [], [], env, F => rfl
  | [], d :: ds, env, F => by simp [bindL]
  | i :: is, [], env, F => by simp [bindL]
  | i :: is, d :: ds, env, F => by
    have h := bindL_eq is ds (env.set i (some d)) F
    rw [bindL_1, ← h]
    simp only [List.length_cons, Nat.add_right_cancel_iff, List.zip_cons_cons, List.foldl_cons]
theorem bindQ_tp {is ds env F} : bindQ (.tp is) (.tup ds) env F = bindL is ds env F := bindL_eq is ds env F
section
variable {T : Tab} {C : Calls} {hx : Option Exc} {env : Env} {st : Store} {X : QX}
section
variable {Q : QE}
theorem z_var {i : Nat} : wpE T C hx (.var i) env st Q X = getV env i (lz (fun d => Q d st) .mk) := rfl
theorem z_con {d : D} : wpE T C hx (.con d) env st Q X = Q d st := rfl
theorem z_glo {i : Nat} : wpE T C hx (.glo i) env st Q X = optQ (T.glo i) (lz (fun d => Q d st) .mk) := by
  unfold wpE
  cases T.glo i <;> rfl
theorem z_bin {o : Op} {a b : E} : wpE T C hx (.bin o a b) env st Q X = wpE T C hx a env st (lz (fun x s1 => wpE T C hx b env s1 (lz (fun y s2 => binQ s2 o x y Q) .mk) X) .mk) X := rfl
theorem z_neg {a : E} : wpE T C hx (.neg a) env st Q X = wpE T C hx a env st (lz (fun x s1 => intQ x (lz (fun i => Q (.int (-i)) s1) .mk)) .mk) X := rfl
theorem z_cmp {o : Cm} {a b : E} : wpE T C hx (.cmp o a b) env st Q X = wpE T C hx a env st (lz (fun x s1 => wpE T C hx b env s1 (lz (fun y s2 => cmpQ T s2 o x y (lz (fun b => Q (.bl b) s2) .mk)) .mk) X) .mk) X := rfl
theorem z_chain {o o' : Cm} {a b c : E} : wpE T C hx (.chain o o' a b c) env st Q X = wpE T C hx a env st (lz (fun x s1 => wpE T C hx b env s1 (lz (fun y s2 => cmpQ T s2 o x y (lz (fun k => ifL k (lz (fun _ => wpE T C hx c env s2 (lz (fun z s3 => cmpQ T s3 o' y z (lz (fun b => Q (.bl b) s3) .mk)) .mk) X) .mk) (lz (fun _ => Q (.bl false) s2) .mk)) .mk)) .mk) X) .mk) X := rfl
theorem z_isN {a : E} : wpE T C hx (.isN a) env st Q X = wpE T C hx a env st (lz (fun x s1 => Q (.bl (isNon x)) s1) .mk) X := by
  show wpE T C hx a env st (fun x s1 => Q (.bl (decide (x = .non))) s1) X = _
  simp only [isNon_eq, lz]
theorem z_notN {a : E} : wpE T C hx (.notN a) env st Q X = wpE T C hx a env st (lz (fun x s1 => Q (.bl (!isNon x)) s1) .mk) X := by
  show wpE T C hx a env st (fun x s1 => Q (.bl (!decide (x = .non))) s1) X = _
  simp only [isNon_eq, lz]
theorem z_and {a b : E} : wpE T C hx (.and a b) env st Q X = wpE T C hx a env st (lz (fun x s1 => boolQ x (lz (fun c => ifL c (lz (fun _ => wpE T C hx b env s1 Q X) .mk) (lz (fun _ => Q (.bl false) s1) .mk)) .mk)) .mk) X := rfl
theorem z_or {a b : E} : wpE T C hx (.or a b) env st Q X = wpE T C hx a env st (lz (fun x s1 => boolQ x (lz (fun c => ifL c (lz (fun _ => Q (.bl true) s1) .mk) (lz (fun _ => wpE T C hx b env s1 Q X) .mk)) .mk)) .mk) X := rfl
theorem z_not {a : E} : wpE T C hx (.not a) env st Q X = wpE T C hx a env st (lz (fun x s1 => boolQ x (lz (fun c => Q (.bl (!c)) s1) .mk)) .mk) X := rfl
theorem z_ife {c a b : E} : wpE T C hx (.ife c a b) env st Q X = wpT T C hx c env st (lz (fun k s1 => ifL k (lz (fun _ => wpE T C hx a env s1 Q X) .mk) (lz (fun _ => wpE T C hx b env s1 Q X) .mk)) .mk) X := rfl
theorem z_call {f : Nat} {as : A} {df : List D} : wpE T C none (.call f as df) env st Q X = wpA T C none as env st (lz (fun ds s1 => C f (ds ++ df) s1 Q X) .mk) X := propext ⟨fun h => h.2, fun h => ⟨rfl, h⟩⟩
theorem z_make {c f : Nat} {as : A} : wpE T C none (.make c f as) env st Q X = wpA T C none as env st (lz (fun ds s1 => C f (.ref s1.length :: ds) (s1 ++ [.ins c []]) (lz (fun d s2 => d = .non ∧ Q (.ref s1.length) s2) .mk) X) .mk) X := propext ⟨fun h => h.2, fun h => ⟨rfl, h⟩⟩
def methQ (x : D) (alts : List (Nat × Nat)) (st : Store) (F : Nat → Prop) : Prop := match x with
  | .ref h => (match st[h]? with
    | some (.ins c fs) => (match alts.lookup c with
      | some f => F f
      | none => False)
    | _ => False)
  | _ => False
theorem methQ_1 {h alts st F} : methQ (.ref h) alts st F = insQ st[h]? (lz (fun c _ => optQ (alts.lookup c) F) .mk) := by
  unfold methQ
  dsimp only
  cases st[h]? with
  | none => rfl
  | some o =>
    cases o with
    | ins c fs =>
      show _ = optQ (alts.lookup c) F
      dsimp only
      cases alts.lookup c <;> rfl
    | _ => rfl
theorem z_meth {alts : List (Nat × Nat)} {o : E} {as : A} : wpE T C none (.meth alts o as) env st Q X = wpE T C none o env st (lz (fun x s1 => methQ x alts s1 (lz (fun f => wpA T C none as env s1 (lz (fun ds s2 => C f (x :: ds) s2 Q X) .mk) X) .mk)) .mk) X := propext ⟨fun h => h.2, fun h => ⟨rfl, h⟩⟩
theorem z_fld {f : Nat} {o : E} : wpE T C hx (.fld f o) env st Q X = wpE T C hx o env st (lz (fun x s1 => fldQ s1 x f Q) .mk) X := rfl
theorem z_pr {p : Pr} {as : A} : wpE T C none (.pr p as) env st Q X = wpA T C none as env st (lz (fun ds s1 => prQ p ds s1 Q) .mk) X := propext ⟨fun h => h.2, fun h => ⟨rfl, h⟩⟩
theorem z_me {m : Me} {o : E} {as : A} : wpE T C hx (.me m o as) env st Q X = wpE T C hx o env st (lz (fun x s1 => meOk m s1 x ∧ wpA T C hx as env s1 (lz (fun ds s2 => meQ m x ds s2 Q) .mk) X) .mk) X := rfl
def isiQ (T : Tab) (st : Store) (x : D) (ts : List Ty) (F : Bool → Prop) : Prop := hasTy st x = true ∧ F (ts.any fun t => isTy T (tyOf st x) t)
theorem z_isi {a : E} {ts : List Ty} : wpE T C hx (.isi a ts) env st Q X = wpE T C hx a env st (lz (fun x s1 => isiQ T s1 x ts (lz (fun b => Q (.bl b) s1) .mk)) .mk) X := rfl
theorem z_idx {a b : E} : wpE T C hx (.idx a b) env st Q X = wpE T C hx a env st (lz (fun x s1 => wpE T C hx b env s1 (lz (fun y s2 => idxQ T s2 x y Q) .mk) X) .mk) X := rfl
theorem z_sli {a lo hi : E} : wpE T C hx (.sli a lo hi) env st Q X = wpE T C hx a env st (lz (fun x s1 => wpE T C hx lo env s1 (lz (fun l s2 => partQ l (lz (fun l' => wpE T C hx hi env s2 (lz (fun u s3 => partQ u (lz (fun u' => sliQ s3 x l' u' Q) .mk)) .mk) X) .mk)) .mk) X) .mk) X := rfl
theorem z_abs0 : wpE T C hx .abs0 env st Q X = Q .non st := rfl
theorem z_tup {as : A} : wpE T C hx (.tup as) env st Q X = wpA T C hx as env st (lz (fun ds s1 => Q (.tup ds) s1) .mk) X := rfl
theorem z_lst {as : A} : wpE T C hx (.lst as) env st Q X = wpA T C hx as env st (lz (fun ds s1 => Q (.ref s1.length) (s1 ++ [.lst ds])) .mk) X := rfl
theorem z_dic {as : A} : wpE T C hx (.dic as) env st Q X = wpA T C hx as env (st ++ [.dic []]) (lz (fun ds s1 => dispQ s1 st.length ds Q) .mk) X := rfl
theorem z_dcomp {kx vx it : E} {tg : Tg} {cs : A} {own : List Nat} : wpE T C none (.dcomp kx vx tg it cs own) env st Q X = wpI T C none it env st (lz (fun j s1 => ∃ n, dcmN j tg (lz (fun e s P => wpTs T C none cs e s P) .mk) (lz (fun e s P => wpE T C none kx e s P (fun _ _ => False)) .mk) (lz (fun e s P => wpE T C none vx e s P (fun _ _ => False)) .mk) s1.length Q n 0 (wipeE env own) (s1 ++ [.dic []])) .mk) X := propext ⟨fun h => h.2, fun h => ⟨rfl, h⟩⟩
theorem z_fstr {as : A} : wpE T C hx (.fstr as) env st Q X = wpF T C hx as env st [] (lz (fun y s1 => Q (.str y) s1) .mk) X := rfl
theorem z_efld {f : Nat} {e : Exc} : wpE T C (some e) (.efld f) env st Q X = optQ (e.fs.lookup f) (lz (fun d => Q d st) .mk) := by
  show (match e.fs.lookup f with | some d => Q d st | none => False) = _
  cases e.fs.lookup f <;> rfl
theorem z_eisi {cs : List Nat} {e : Exc} : wpE T C (some e) (.eisi cs) env st Q X = Q (.bl (cs.any fun c => T.sub e.cls c)) st := rfl
theorem z_comp {elt it : E} {tg : Tg} {cs : A} {own : List Nat} : wpE T C none (.comp elt tg it cs own) env st Q X = wpI T C none it env st (lz (fun j s1 => ∃ n, cmpN j tg (lz (fun e s P => wpTs T C none cs e s P) .mk) (lz (fun e s P => wpE T C none elt e s P (fun _ _ => False)) .mk) s1.length Q n 0 (wipeE env own) (s1 ++ [.lst []])) .mk) X := propext ⟨fun h => h.2, fun h => ⟨rfl, h⟩⟩
end
section
variable {Q : Bool → Store → Prop}
theorem z_Tcmp {o : Cm} {a b : E} : wpT T C hx (.cmp o a b) env st Q X = wpE T C hx a env st (lz (fun x s1 => wpE T C hx b env s1 (lz (fun y s2 => cmpQ T s2 o x y (lz (fun b => Q b s2) .mk)) .mk) X) .mk) X := rfl
theorem z_Tchain {o o' : Cm} {a b c : E} : wpT T C hx (.chain o o' a b c) env st Q X = wpE T C hx a env st (lz (fun x s1 => wpE T C hx b env s1 (lz (fun y s2 => cmpQ T s2 o x y (lz (fun k => ifL k (lz (fun _ => wpE T C hx c env s2 (lz (fun z s3 => cmpQ T s3 o' y z (lz (fun b => Q b s3) .mk)) .mk) X) .mk) (lz (fun _ => Q false s2) .mk)) .mk)) .mk) X) .mk) X := rfl
theorem z_TisN {a : E} : wpT T C hx (.isN a) env st Q X = wpE T C hx a env st (lz (fun x s1 => Q (isNon x) s1) .mk) X := by
  show wpE T C hx a env st (fun x s1 => Q (decide (x = .non)) s1) X = _
  simp only [isNon_eq, lz]
theorem z_TnotN {a : E} : wpT T C hx (.notN a) env st Q X = wpE T C hx a env st (lz (fun x s1 => Q (!isNon x) s1) .mk) X := by
  show wpE T C hx a env st (fun x s1 => Q (!decide (x = .non)) s1) X = _
  simp only [isNon_eq, lz]
theorem z_Tand {a b : E} : wpT T C hx (.and a b) env st Q X = wpT T C hx a env st (lz (fun c s1 => ifL c (lz (fun _ => wpT T C hx b env s1 Q X) .mk) (lz (fun _ => Q false s1) .mk)) .mk) X := rfl
theorem z_Tor {a b : E} : wpT T C hx (.or a b) env st Q X = wpT T C hx a env st (lz (fun c s1 => ifL c (lz (fun _ => Q true s1) .mk) (lz (fun _ => wpT T C hx b env s1 Q X) .mk)) .mk) X := rfl
theorem z_Tnot {a : E} : wpT T C hx (.not a) env st Q X = wpT T C hx a env st (lz (fun c s1 => Q (!c) s1) .mk) X := rfl
theorem z_Ttv {e : E} : wpT T C hx (.tv e) env st Q X = wpE T C hx e env st (lz (fun x s1 => truQ s1 x (lz (fun k => Q k s1) .mk)) .mk) X := rfl
end
section
variable {Q : List D → Store → Prop}
theorem z_nil : wpA T C hx .nil env st Q X = Q [] st := rfl
theorem z_cons {e : E} {as : A} : wpA T C hx (.cons e as) env st Q X = wpE T C hx e env st (lz (fun d s1 => wpA T C hx as env s1 (lz (fun ds s2 => Q (d :: ds) s2) .mk) X) .mk) X := rfl
end
theorem z_Fnil {acc : List Nat} {Q : List Nat → Store → Prop} : wpF T C hx .nil env st acc Q X = Q acc st := rfl
theorem z_Fcons {e : E} {as : A} {acc : List Nat} {Q : List Nat → Store → Prop} : wpF T C hx (.cons e as) env st acc Q X = wpE T C hx e env st (lz (fun d s1 => fmtQ d (lz (fun y => (acc ++ y).length ≤ line ∧ wpF T C hx as env s1 (acc ++ y) Q X) .mk)) .mk) X := rfl
theorem z_Tsn {Q : Bool → Store → Prop} : wpTs T C hx .nil env st Q = Q true st := rfl
theorem z_Ts1 {e : E} {Q : Bool → Store → Prop} : wpTs T C hx (.cons e .nil) env st Q = wpT T C hx e env st Q (lz (fun _ _ => False) .mk) := rfl
section
variable {R : J → Store → Prop}
theorem z_rng1 {a : E} : wpI T C hx (.rng1 a) env st R X = wpE T C hx a env st (lz (fun x s1 => intQ x (lz (fun n => -(2 ^ 62) ≤ n ∧ n < 2 ^ 62 ∧ R (.seq (rngD 0 n.toNat)) s1) .mk)) .mk) X := rfl
def int2Q (x y : D) (F : Int → Int → Prop) : Prop := match x, y with
  | .int m, .int n => F m n
  | _, _ => False
theorem int2Q_1 {m n F} : int2Q (.int m) (.int n) F = F m n := rfl
theorem z_rng2 {a b : E} : wpI T C hx (.rng2 a b) env st R X = wpE T C hx a env st (lz (fun x s1 => wpE T C hx b env s1 (lz (fun y s2 => int2Q x y (lz (fun m n => (-(2 ^ 62) ≤ m ∧ m < 2 ^ 62 ∧ -(2 ^ 62) ≤ n ∧ n < 2 ^ 62) ∧ R (.seq (rngD m (n - m).toNat)) s2) .mk)) .mk) X) .mk) X := rfl
theorem z_enm {a : E} : wpI T C hx (.enm a) env st R X = wpE T C hx a env st (lz (fun x s1 => enmQ s1 x (lz (fun j => R j s1) .mk)) .mk) X := rfl
theorem z_zip {a b : E} : wpI T C hx (.zip a b) env st R X = wpE T C hx a env st (lz (fun x s1 => wpE T C hx b env s1 (lz (fun y s2 => zipQ s2 x y (lz (fun j => R j s2) .mk)) .mk) X) .mk) X := rfl
theorem z_sq {e : E} : wpI T C hx (.sq e) env st R X = wpE T C hx e env st (lz (fun x s1 => walkQ s1 x (lz (fun j => R j s1) .mk)) .mk) X := rfl
end
section
variable {k : K}
theorem z_Bnil : wpB T C hx .nil env st k = k.nx env st := rfl
theorem z_Bcons {s : S} {b : B} : wpB T C hx (.cons s b) env st k = wpS T C hx s env st (ks T C hx b k .mk) := rfl
theorem z_asg {i : Nat} {e : E} : wpS T C hx (.asg (.nm i) e) env st k = wpE T C hx e env st (lz (fun d s1 => k.nx (env.set i (some d)) s1) .mk) (lz (fun x s1 => k.xc x env s1) .mk) := propext ⟨fun h => h.2, fun h => ⟨trivial, h⟩⟩
theorem z_asgt {is : List Nat} {e : E} : wpS T C none (.asg (.tp is) e) env st k = wpE T C none e env st (lz (fun d s1 => bindQ (.tp is) d env (lz (fun env' => k.nx env' s1) .mk)) .mk) (lz (fun x s1 => k.xc x env s1) .mk) := propext ⟨fun h => h.2, fun h => ⟨rfl, h⟩⟩
theorem z_asg2 {i j : Nat} {a b : E} : wpS T C none (.asg2 i j a b) env st k = wpE T C none a env st (lz (fun x s1 => wpE T C none b env s1 (lz (fun y s2 => k.nx ((env.set i (some x)).set j (some y)) s2) .mk) (lz (fun x s1 => k.xc x env s1) .mk)) .mk) (lz (fun x s1 => k.xc x env s1) .mk) := propext ⟨fun h => h.2, fun h => ⟨rfl, h⟩⟩
theorem z_setf {o e : E} {f : Nat} : wpS T C hx (.setf o f e) env st k = wpE T C hx e env st (lz (fun v s1 => wpE T C hx o env s1 (lz (fun x s2 => setfQ s2 x f v (lz (fun s3 => k.nx env s3) .mk)) .mk) (lz (fun x s1 => k.xc x env s1) .mk)) .mk) (lz (fun x s1 => k.xc x env s1) .mk) := rfl
theorem z_seti {o i e : E} : wpS T C hx (.seti o i e) env st k = wpE T C hx e env st (lz (fun v s1 => wpE T C hx o env s1 (lz (fun x s2 => wpE T C hx i env s2 (lz (fun y s3 => setQ s3 x y v (lz (fun s4 => k.nx env s4) .mk)) .mk) (lz (fun x s1 => k.xc x env s1) .mk)) .mk) (lz (fun x s1 => k.xc x env s1) .mk)) .mk) (lz (fun x s1 => k.xc x env s1) .mk) := rfl
def augQ (op : Op) (x y : D) (F : Int → Prop) : Prop := match op, x, y with
  | .add, .int a, .int b => F (a + b)
  | .sub, .int a, .int b => F (a - b)
  | _, _, _ => False
theorem augQ_1 {a b F} : augQ .add (.int a) (.int b) F = F (a + b) := rfl
theorem augQ_2 {a b F} : augQ .sub (.int a) (.int b) F = F (a - b) := rfl
theorem z_augn {i : Nat} {op : Op} {e : E} : wpS T C hx (.augn i op e) env st k = getV env i (lz (fun x => wpE T C hx e env st (lz (fun y s1 => augQ op x y (lz (fun n => k.nx (env.set i (some (.int n))) s1) .mk)) .mk) (lz (fun x s1 => k.xc x env s1) .mk)) .mk) := by
  show getV env i (fun x => wpE T C hx e env st (fun y s1 => (match op, x, y with
    | .add, .int a, .int b => k.nx (env.set i (some (.int (a + b)))) s1
    | .sub, .int a, .int b => k.nx (env.set i (some (.int (a - b)))) s1
    | _, _, _ => False)) fun x s1 => k.xc x env s1) = _
  have : ∀ x y s1, (match op, x, y with
    | .add, .int a, .int b => k.nx (env.set i (some (.int (a + b)))) s1
    | .sub, .int a, .int b => k.nx (env.set i (some (.int (a - b)))) s1
    | _, _, _ => False) = augQ op x y (fun n => k.nx (env.set i (some (.int n))) s1) := fun x y s1 => by
    cases op <;> cases x <;> cases y <;> rfl
  simp only [this, lz]
theorem z_augf {o : E} {f : Nat} {op : Op} {e : E} : wpS T C hx (.augf o f op e) env st k = wpE T C hx o env st (lz (fun x s1 => fldQ s1 x f (lz (fun v s1 => wpE T C hx e env s1 (lz (fun y s2 => augQ op v y (lz (fun n => clsOf s2 x = clsOf s1 x ∧ setfQ s2 x f (.int n) (lz (fun s3 => k.nx env s3) .mk)) .mk)) .mk) (lz (fun x s1 => k.xc x env s1) .mk)) .mk)) .mk) (lz (fun x s1 => k.xc x env s1) .mk) := by
  show wpE T C hx o env st (fun x s1 => fldQ s1 x f fun v s1 => wpE T C hx e env s1 (fun y s2 => (match op, v, y with
    | .add, .int a, .int b => clsOf s2 x = clsOf s1 x ∧ setfQ s2 x f (.int (a + b)) fun s3 => k.nx env s3
    | .sub, .int a, .int b => clsOf s2 x = clsOf s1 x ∧ setfQ s2 x f (.int (a - b)) fun s3 => k.nx env s3
    | _, _, _ => False)) fun x s1 => k.xc x env s1) (fun x s1 => k.xc x env s1) = _
  have : ∀ x v y s1 s2, (match op, v, y with
    | .add, .int a, .int b => clsOf s2 x = clsOf s1 x ∧ setfQ s2 x f (.int (a + b)) fun s3 => k.nx env s3
    | .sub, .int a, .int b => clsOf s2 x = clsOf s1 x ∧ setfQ s2 x f (.int (a - b)) fun s3 => k.nx env s3
    | _, _, _ => False) = augQ op v y (fun n => clsOf s2 x = clsOf s1 x ∧ setfQ s2 x f (.int n) (fun s3 => k.nx env s3)) := fun x v y s1 s2 => by
    cases op <;> cases v <;> cases y <;> rfl
  simp only [this, lz]
theorem z_exp {e : E} : wpS T C hx (.exp e) env st k = wpE T C hx e env st (lz (fun _ s1 => k.nx env s1) .mk) (lz (fun x s1 => k.xc x env s1) .mk) := rfl
theorem z_ret {e : E} : wpS T C hx (.ret e) env st k = wpE T C hx e env st (lz (fun d s1 => k.rt d s1) .mk) (lz (fun x s1 => k.xc x env s1) .mk) := rfl
theorem z_retN : wpS T C hx .retN env st k = k.rt .non st := rfl
theorem z_if {c : E} {a b : B} : wpS T C hx (.ifS c a b) env st k = wpT T C hx c env st (lz (fun t s1 => ifL t (lz (fun _ => wpB T C hx a env s1 k) .mk) (lz (fun _ => wpB T C hx b env s1 k) .mk)) .mk) (lz (fun x s1 => k.xc x env s1) .mk) := rfl
theorem z_for {tg : Tg} {it : E} {b : B} : wpS T C none (.forS tg it b) env st k = wpI T C none it env st (lz (fun j s1 => ∃ n, forN j tg (lz (fun e s k' => wpB T C none b e s k') .mk) k n 0 env s1) .mk) (lz (fun x s1 => k.xc x env s1) .mk) := propext ⟨fun h => h.2, fun h => ⟨rfl, h⟩⟩
theorem z_whl {c : E} {b : B} : wpS T C none (.whl c b) env st k = ∃ n, whlN (lz (fun e s P => wpT T C none c e s P (lz (fun x s1 => k.xc x e s1) .mk)) .mk) (lz (fun e s k' => wpB T C none b e s k') .mk) k n env st := propext ⟨fun h => h.2, fun h => ⟨rfl, h⟩⟩
theorem z_brk : wpS T C hx .brk env st k = k.bk env st := rfl
theorem z_cnt : wpS T C hx .cnt env st k = k.ct env st := rfl
theorem z_pas : wpS T C hx .pas env st k = k.nx env st := rfl
theorem z_rais0 {c : Nat} : wpS T C none (.rais c .nil) env st k = optQ (T.exf c) (lz (fun o => o = none ∧ k.xc ⟨c, []⟩ env st) .mk) := by
  show (none = none ∧ _) = _
  cases h : T.exf c with
  | none => exact propext ⟨fun h => h.2, fun h => h.elim⟩
  | some o => cases o with
    | none => exact propext ⟨fun h => ⟨rfl, h.2⟩, fun h => ⟨rfl, h.2⟩⟩
    | some f => exact propext ⟨fun h => h.2.elim, fun h => by cases h.1⟩
theorem z_rais1 {c : Nat} {e : E} : wpS T C none (.rais c (.cons e .nil)) env st k = optQ (T.exf c) (lz (fun o => optQ o (lz (fun f => wpE T C none e env st (lz (fun d s1 => k.xc ⟨c, [(f, d)]⟩ env s1) .mk) (lz (fun x s1 => k.xc x env s1) .mk)) .mk)) .mk) := by
  show (none = none ∧ _) = _
  cases h : T.exf c with
  | none => exact propext ⟨fun h => h.2, fun h => h.elim⟩
  | some o => cases o with
    | none => exact propext ⟨fun h => h.2, fun h => h.elim⟩
    | some f => exact propext ⟨fun h => h.2, fun h => ⟨rfl, h⟩⟩
theorem z_try {b : B} {hs : Hs} : wpS T C none (.tryS b hs) env st k = wpB T C none b env st (kt T C hs k .mk) := propext ⟨fun h => h.2, fun h => ⟨rfl, h⟩⟩
theorem z_Hnil {e : Exc} : wpH T C .nil e env st k = k.xc e env st := rfl
theorem z_Hcons {c : Nat} {nm : Option Nat} {b : B} {hs : Hs} {e : Exc} : wpH T C (.cons c nm b hs) e env st k = ifL (T.sub e.cls c) (lz (fun _ => wpB T C (some e) b (unset nm env) st (kh k nm .mk)) .mk) (lz (fun _ => wpH T C hs e env st k) .mk) := rfl
end
theorem call_z {k f : Nat} {ds : List D} {Q : QE} (fn : Fn) (h : T.fn f = some fn) (hl : ds.length = fn.np)
    (b : wpB T (Call T k) none fn.body (ds.map some ++ List.replicate (fn.ns - fn.np) none) st (kc Q X .mk .mk)) : Call T (k + 1) f ds st Q X := call_go fn h hl b
section
variable {Q : QE} {a b i : Int}
theorem v_v0 {d : D} {Q : D → Prop} : getV (some d :: env) 0 Q = Q d := rfl
theorem v_vs {a : Option D} {i : Nat} {Q : D → Prop} : getV (a :: env) (i + 1) Q = getV env i Q := getV_s a env i Q
theorem v_add : binQ st .add (.int a) (.int b) Q = Q (.int (a + b)) st := rfl
theorem v_sub : binQ st .sub (.int a) (.int b) Q = Q (.int (a - b)) st := rfl
def mulOk (a b : Int) : Prop := (-(2 ^ 64) < a ∧ a < 2 ^ 64) ∨ (-(2 ^ 64) < b ∧ b < 2 ^ 64)
theorem v_mul : binQ st .mul (.int a) (.int b) Q = (mulOk a b ∧ Q (.int (a * b)) st) := rfl
theorem v_fdiv : binQ st .fdiv (.int a) (.int b) Q = ((0 < b ∧ b < 1073741824) ∧ Q (.int (a / b)) st) := propext ⟨fun h => ⟨⟨h.1, h.2.1⟩, h.2.2⟩, fun h => ⟨h.1.1, h.1.2, h.2⟩⟩
theorem v_mod : binQ st .mod (.int a) (.int b) Q = (0 < b ∧ Q (.int (a % b)) st) := rfl
theorem v_pow : binQ st .pow (.int a) (.int b) Q = ((0 ≤ b ∧ b ≤ 1000000 ∧ a.natAbs < 2 ^ 64) ∧ Q (.int (a ^ b.toNat)) st) := propext ⟨fun h => ⟨⟨h.1, h.2.1, h.2.2.1⟩, h.2.2.2⟩, fun h => ⟨h.1.1, h.1.2.1, h.1.2.2, h.2⟩⟩
theorem v_sadd {x y : List Nat} : binQ st .add (.str x) (.str y) Q = (x.length + y.length ≤ line ∧ Q (.str (x ++ y)) st) := rfl
theorem v_tadd {x y : List D} : binQ st .add (.tup x) (.tup y) Q = (x.length + y.length ≤ line ∧ Q (.tup (x ++ y)) st) := rfl
theorem v_ladd {h g : Nat} : binQ st .add (.ref h) (.ref g) Q = lstQ st[h]? (lz (fun a => lstQ st[g]? (lz (fun b => a.length + b.length ≤ line ∧ Q (.ref st.length) (st ++ [.lst (a ++ b)])) .mk)) .mk) := by
  unfold binQ
  dsimp only
  cases st[h]? with
  | none => rfl
  | some o =>
    cases o with
    | lst a =>
      show _ = lstQ st[g]? _
      cases st[g]? with
      | none => rfl
      | some o => cases o <;> rfl
    | _ => rfl
theorem v_lmul {h : Nat} {k : Int} : binQ st .mul (.ref h) (.int k) Q = lstQ st[h]? (lz (fun a => (-(2 ^ 63) ≤ k ∧ k < 2 ^ 63 ∧ a.length * k.toNat ≤ line) ∧ Q (.ref st.length) (st ++ [.lst (List.replicate k.toNat a).flatten])) .mk) := by
  unfold binQ
  dsimp only
  cases st[h]? with
  | none => rfl
  | some o =>
    cases o with
    | lst a => exact propext ⟨fun h => ⟨⟨h.1, h.2.1, h.2.2.1⟩, h.2.2.2⟩, fun h => ⟨h.1.1, h.1.2.1, h.1.2.2, h.2⟩⟩
    | _ => rfl
theorem v_int : prQ .int [.int i] st Q = Q (.int i) st := rfl
theorem v_intb {k : Bool} : prQ .int [.bl k] st Q = Q (.int (if k then 1 else 0)) st := rfl
theorem v_abs : prQ .abs [.int i] st Q = Q (.int (if i < 0 then -i else i)) st := rfl
theorem v_max2 : prQ .max2 [.int a, .int b] st Q = Q (.int (if b > a then b else a)) st := rfl
theorem v_min2 : prQ .min2 [.int a, .int b] st Q = Q (.int (if b < a then b else a)) st := rfl
theorem v_stri : prQ .str [.int i] st Q = (i.natAbs.log2 < 1920 ∧ Q (.str (decI i)) st) := rfl
theorem v_lens {x : List Nat} : prQ .len [.str x] st Q = (x.length ≤ line ∧ Q (.int x.length) st) := rfl
theorem v_lenm {α : Type} {f : α → D} {x : List α} : prQ .len [.tup (x.map f)] st Q = Q (.int (x.map f).length) st := rfl
theorem v_len0 : prQ .len [.tup []] st Q = Q (.int 0) st := rfl
theorem v_len1 {a : D} : prQ .len [.tup [a]] st Q = Q (.int 1) st := rfl
theorem v_len2 {a b : D} : prQ .len [.tup [a, b]] st Q = Q (.int 2) st := rfl
theorem v_len3 {a b c : D} : prQ .len [.tup [a, b, c]] st Q = Q (.int 3) st := rfl
theorem v_len4 {a b c d : D} : prQ .len [.tup [a, b, c, d]] st Q = Q (.int 4) st := rfl
theorem v_len5 {a b c d e : D} : prQ .len [.tup [a, b, c, d, e]] st Q = Q (.int 5) st := rfl
theorem v_len6 {a b c d e f : D} : prQ .len [.tup [a, b, c, d, e, f]] st Q = Q (.int 6) st := rfl
theorem v_lent {x : List D} : prQ .len [.tup x] st Q = Q (.int x.length) st := rfl
theorem v_lenr {h : Nat} : prQ .len [.ref h] st Q = cntQ st[h]? (lz (fun x => Q (.int x) st) .mk) := by
  unfold prQ
  dsimp only
  cases st[h]? with
  | none => rfl
  | some o => cases o <;> rfl
theorem v_tupt {x : List D} : prQ .tuple [.tup x] st Q = Q (.tup x) st := rfl
theorem v_tupr {h : Nat} : prQ .tuple [.ref h] st Q = sqQ st[h]? (lz (fun x => Q (.tup x) st) .mk) := by
  unfold prQ
  dsimp only
  cases st[h]? with
  | none => rfl
  | some o => cases o <;> rfl
theorem v_lstt {x : List D} : prQ .list [.tup x] st Q = Q (.ref st.length) (st ++ [.lst x]) := rfl
theorem v_lstr {h : Nat} : prQ .list [.ref h] st Q = sqQ st[h]? (lz (fun x => Q (.ref st.length) (st ++ [.lst x])) .mk) := by
  unfold prQ
  dsimp only
  cases st[h]? with
  | none => rfl
  | some o => cases o <;> rfl
theorem v_any {h : Nat} : prQ .any [.ref h] st Q = lstQ st[h]? (lz (fun x => ∃ bs : List Bool, x = bs.map D.bl ∧ Q (.bl (bs.any id)) st) .mk) := by
  unfold prQ
  dsimp only
  cases st[h]? with
  | none => rfl
  | some o => cases o <;> rfl
theorem v_all {h : Nat} : prQ .all [.ref h] st Q = lstQ st[h]? (lz (fun x => ∃ bs : List Bool, x = bs.map D.bl ∧ Q (.bl (bs.all id)) st) .mk) := by
  unfold prQ
  dsimp only
  cases st[h]? with
  | none => rfl
  | some o => cases o <;> rfl
theorem v_ixt {x : List D} : idxQ T st (.tup x) (.int i) Q = getIx x i (lz (fun c => Q c st) .mk) := rfl
theorem v_ixr {h : Nat} {y : D} : idxQ T st (.ref h) y Q = ixrQ st[h]? y (lz (fun c => Q c st) .mk) := by
  unfold idxQ
  dsimp only
  cases st[h]? with
  | none => rfl
  | some o =>
    cases o with
    | dic kvs =>
      show (_ ∧ _) = (_ ∧ optQ (getK kvs y) _)
      cases e : getK kvs y with
      | none => exact propext ⟨fun ⟨_, d, h, _⟩ => (by cases h), fun h => h.2.elim⟩
      | some d => exact propext ⟨fun ⟨a, d', h, q⟩ => ⟨a, (by cases h; exact q)⟩, fun h => ⟨h.1, d, rfl, h.2⟩⟩
    | _ => rfl
theorem v_kon {k : Nat} {y : D} : idxQ T st (.kon k) y Q = optQ (getC (T.kon k) y) (lz (fun c => Q c st) .mk) := by
  show (∃ v, getC (T.kon k) y = some v ∧ Q v st) = _
  cases getC (T.kon k) y with
  | none => exact propext ⟨fun ⟨v, h, _⟩ => (by cases h), fun h => h.elim⟩
  | some v => exact propext ⟨fun ⟨v', h, q⟩ => (by cases h; exact q), fun h => ⟨v, rfl, h⟩⟩
theorem v_seti {h : Nat} {y v : D} {R : Store → Prop} : setQ st (.ref h) y v R = strQ st[h]? y v (lz (fun o => R (st.set h o)) .mk) := by
  unfold setQ
  dsimp only
  cases st[h]? with
  | none => rfl
  | some o =>
    cases o with
    | lst xs =>
      refine propext ⟨fun ⟨k, j, e, e2, q⟩ => ⟨k, e, ?_⟩, fun ⟨k, e, q⟩ => ?_⟩
      · rw [e2]
        exact q
      · cases e2 : ixOf xs.length k with
        | none => rw [e2] at q; exact q.elim
        | some j => rw [e2] at q; exact ⟨k, j, e, e2, q⟩
    | _ => rfl
theorem strQ_1 {xs : List D} {i : Int} {v : D} {F : O → Prop} : strQ (some (.lst xs)) (.int i) v F = setIx xs i v (lz (fun y => F (.lst y)) .mk) := by
  refine propext ⟨fun ⟨j, e, h⟩ => ?_, fun h => ⟨i, rfl, ?_⟩⟩
  · cases e
    unfold setIx
    cases e2 : ixOf xs.length i with
    | none => rw [e2] at h; exact h
    | some j => rw [e2] at h; exact h
  · unfold setIx at h
    cases e2 : ixOf xs.length i with
    | none => rw [e2] at h; exact h
    | some j => rw [e2] at h; exact h
theorem strQ_2 {kvs : List (D × D)} {x : List Nat} {v : D} {F : O → Prop} : strQ (some (.dic kvs)) (.str x) v F = (kvs.length < line ∧ F (.dic (putK kvs (.str x) v))) := propext ⟨fun h => h.2, fun h => ⟨rfl, h⟩⟩
theorem strQ_3 {kvs : List (D × D)} {x : Int} {v : D} {F : O → Prop} : strQ (some (.dic kvs)) (.int x) v F = (kvs.length < line ∧ F (.dic (putK kvs (.int x) v))) := propext ⟨fun h => h.2, fun h => ⟨rfl, h⟩⟩
theorem v_pts {R : Option Int → Prop} : partQ (.int i) R = R (some i) := rfl
theorem v_ptn {R : Option Int → Prop} : partQ .non R = R none := rfl
theorem v_sls {z : List Nat} {lo hi : Option Int} : sliQ st (.str z) lo hi Q = (z.length ≤ line ∧ Q (.str (cutL z lo hi)) st) := rfl
theorem v_slt {z : List D} {lo hi : Option Int} : sliQ st (.tup z) lo hi Q = Q (.tup (cutL z lo hi)) st := rfl
theorem v_slr {h : Nat} {lo hi : Option Int} : sliQ st (.ref h) lo hi Q = sqQ st[h]? (lz (fun x => Q (.ref st.length) (st ++ [.lst (cutL x lo hi)])) .mk) := by
  unfold sliQ
  dsimp only
  cases st[h]? with
  | none => rfl
  | some o => cases o <;> rfl
theorem v_fld {h f : Nat} : fldQ st (.ref h) f Q = insQ st[h]? (lz (fun _ fs => optQ (fs.lookup f) (lz (fun d => Q d st) .mk)) .mk) := by
  unfold fldQ
  dsimp only
  cases st[h]? with
  | none => rfl
  | some o =>
    cases o with
    | ins c fs =>
      show _ = optQ (fs.lookup f) _
      dsimp only
      cases fs.lookup f <;> rfl
    | _ => rfl
theorem v_setf {h f : Nat} {v : D} {R : Store → Prop} : setfQ st (.ref h) f v R = insQ st[h]? (lz (fun c fs => fewF 999 fs ∧ R (st.set h (.ins c (putF f v fs)))) .mk) := by
  unfold setfQ
  dsimp only
  cases st[h]? with
  | none => rfl
  | some o =>
    cases o with
    | ins c fs =>
      show (fs.length < 1000 ∧ _) = (fewF 999 fs ∧ _)
      rw [fewF_iff]
      exact propext ⟨fun h => ⟨by omega, h.2⟩, fun h => ⟨by omega, h.2⟩⟩
    | _ => rfl
theorem v_okl {m : Me} {h : Nat} : meOk m st (.ref h) = (match st[h]? with
    | some (.lst _) => meT m = .list
    | some (.dic _) => meT m = .dict
    | _ => False) := rfl
theorem v_oks {m : Me} {x : List Nat} : meOk m st (.str x) = (meT m = .str) := rfl
theorem v_app {h : Nat} {d : D} : meQ .append (.ref h) [d] st Q = lstQ st[h]? (lz (fun x => x.length < line ∧ Q .non (st.set h (.lst (x ++ [d])))) .mk) := by
  unfold meQ
  dsimp only
  cases st[h]? with
  | none => rfl
  | some o => cases o <;> rfl
theorem v_pop {h : Nat} : meQ .pop (.ref h) [] st Q = lstQ st[h]? (lz (fun xs => optQ xs[xs.length - 1]? (lz (fun d => Q d (st.set h (.lst xs.dropLast))) .mk)) .mk) := by
  unfold meQ
  dsimp only
  cases st[h]? with
  | none => rfl
  | some o =>
    cases o with
    | lst xs =>
      show _ = optQ xs[xs.length - 1]? _
      cases e : xs[xs.length - 1]? with
      | none => exact propext ⟨fun ⟨d, h, _⟩ => (by rw [e] at h; cases h), fun h => h.elim⟩
      | some d => exact propext ⟨fun ⟨d', h, q⟩ => (by rw [e] at h; cases h; exact q), fun h => ⟨d, e, h⟩⟩
    | _ => rfl
end
section
variable {Q : Bool → Prop} {a b : Int} {x y : List Nat} {c d : Bool}
theorem v_lt : cmpQ T st .lt (.int a) (.int b) Q = Q (decide (a < b)) := rfl
theorem v_le : cmpQ T st .le (.int a) (.int b) Q = Q (decide (a ≤ b)) := rfl
theorem v_gt : cmpQ T st .gt (.int a) (.int b) Q = Q (decide (b < a)) := rfl
theorem v_ge : cmpQ T st .ge (.int a) (.int b) Q = Q (decide (b ≤ a)) := rfl
theorem v_eq {x y : D} : cmpQ T st .eq x y Q = eqQ st x y Q := rfl
theorem v_ne {x y : D} : cmpQ T st .ne x y Q = eqQ st x y (lz (fun b => Q (!b)) .mk) := rfl
theorem v_in {x y : D} : cmpQ T st .inn x y Q = inQ T st x y Q := rfl
theorem v_ni {x y : D} : cmpQ T st .nin x y Q = inQ T st x y (lz (fun b => Q (!b)) .mk) := rfl
theorem v_eqii : eqQ st (.int a) (.int b) Q = Q (decide (a = b)) := rfl
theorem v_eqss : eqQ st (.str x) (.str y) Q = Q (decide (x = y)) := rfl
theorem v_eqbb : eqQ st (.bl c) (.bl d) Q = Q (decide (c = d)) := rfl
theorem v_eqsi : eqQ st (.str x) (.int b) Q = Q false := rfl
theorem v_eqis : eqQ st (.int a) (.str y) Q = Q false := rfl
theorem v_eqni : eqQ st .non (.int b) Q = Q false := rfl
theorem v_eqin : eqQ st (.int a) .non Q = Q false := rfl
theorem v_eqns : eqQ st .non (.str y) Q = Q false := rfl
theorem v_eqsn : eqQ st (.str x) .non Q = Q false := rfl
theorem v_trn : truQ st .non Q = Q false := rfl
theorem v_trb : truQ st (.bl c) Q = Q c := rfl
theorem v_tri : truQ st (.int a) Q = Q (a != 0) := rfl
theorem v_trt {x : List D} : truQ st (.tup x) Q = Q (!x.isEmpty) := rfl
theorem v_trr {h : Nat} : truQ st (.ref h) Q = lstQ st[h]? (lz (fun ds => Q (!ds.isEmpty)) .mk) := by
  unfold truQ
  dsimp only
  cases st[h]? with
  | none => rfl
  | some o => cases o <;> rfl
theorem v_trs : truQ st (.str x) Q = (x.length ≤ line ∧ Q (!x.isEmpty)) := rfl
theorem v_fms {Q : List Nat → Prop} : fmtQ (.str x) Q = (x.length ≤ line ∧ Q x) := rfl
theorem v_fmi {Q : List Nat → Prop} : fmtQ (.int a) Q = (a.natAbs.log2 < 1920 ∧ Q (decI a)) := rfl
theorem v_inp {ds : List D} {x : D} : inQ T st x (.tup ds) Q = (flatD x = true ∧ ds.all flatD = true ∧ Q (inD x ds)) := by cases x <;> rfl
def inrQ (o : Option O) (x : D) (F : Bool → Prop) : Prop := match o with
  | some (.lst ds) => flatD x = true ∧ ds.all flatD = true ∧ F (inD x ds)
  | some (.dic kvs) => keyD x = true ∧ F (getK kvs x).isSome
  | _ => False
theorem inrQ_1 {ds : List D} {x : D} {F : Bool → Prop} : inrQ (some (.lst ds)) x F = (flatD x = true ∧ ds.all flatD = true ∧ F (inD x ds)) := rfl
theorem inrQ_2 {kvs : List (D × D)} {x : List Nat} {F : Bool → Prop} : inrQ (some (.dic kvs)) (.str x) F = F (getK kvs (.str x)).isSome := propext ⟨fun h => h.2, fun h => ⟨rfl, h⟩⟩
theorem inrQ_3 {kvs : List (D × D)} {x : Int} {F : Bool → Prop} : inrQ (some (.dic kvs)) (.int x) F = F (getK kvs (.int x)).isSome := propext ⟨fun h => h.2, fun h => ⟨rfl, h⟩⟩
theorem v_inl {h : Nat} {x : D} : inQ T st x (.ref h) Q = inrQ st[h]? x Q := by
  cases x <;> (unfold inQ; dsimp only; cases st[h]? with
    | none => rfl
    | some o => cases o <;> rfl)
theorem v_inK {k : Nat} : inQ T st (.str x) (.kon k) Q = (T.kon k ≠ [] ∧ Q (getC (T.kon k) (.str x)).isSome) := propext ⟨fun ⟨h, a, e, q⟩ => ⟨h, q⟩, fun h => ⟨h.1, x, rfl, h.2⟩⟩
theorem v_ins : inQ T st (.str x) (.str y) Q = Q (!(Builtin.Str.occurrences ⟨y.toArray⟩ ⟨x.toArray⟩ 0 y.length 1).isEmpty) := rfl
section
variable {ts : List Ty} {F : Bool → Prop}
theorem t_n : isiQ T st .non ts F = F (ts.any fun t => isTy T none t) := propext ⟨fun h => h.2, fun h => ⟨rfl, h⟩⟩
theorem t_b : isiQ T st (.bl c) ts F = F (ts.any fun t => isTy T (some .bool) t) := propext ⟨fun h => h.2, fun h => ⟨rfl, h⟩⟩
theorem t_i : isiQ T st (.int a) ts F = F (ts.any fun t => isTy T (some .int) t) := propext ⟨fun h => h.2, fun h => ⟨rfl, h⟩⟩
theorem t_s : isiQ T st (.str x) ts F = F (ts.any fun t => isTy T (some .str) t) := propext ⟨fun h => h.2, fun h => ⟨rfl, h⟩⟩
theorem t_t {x : List D} : isiQ T st (.tup x) ts F = F (ts.any fun t => isTy T (some .tuple) t) := propext ⟨fun h => h.2, fun h => ⟨rfl, h⟩⟩
def tyO (o : Option O) : Option Ty := match o with
  | some (.lst _) => some .list
  | some (.fro _) => some .list
  | some (.dic _) => some .dict
  | some (.ins c _) => some (.own c)
  | none => none
theorem t_r {h : Nat} : isiQ T st (.ref h) ts F = optQ (tyO st[h]?) (lz (fun y => F (ts.any fun t => isTy T (some y) t)) .mk) := by
  unfold isiQ hasTy tyOf tyO
  dsimp only
  cases st[h]? with
  | none => exact propext ⟨fun h => Bool.noConfusion h.1, fun h => h.elim⟩
  | some o => cases o <;> exact propext ⟨fun h => h.2, fun h => ⟨rfl, h⟩⟩
theorem tyO_1 {x} : tyO (some (.lst x)) = some .list := rfl
theorem tyO_2 {x} : tyO (some (.fro x)) = some .list := rfl
theorem tyO_3 {x} : tyO (some (.dic x)) = some .dict := rfl
theorem tyO_4 {c x} : tyO (some (.ins c x)) = some (.own c) := rfl
theorem y_n {t} : isTy T none t = false := rfl
theorem y_b {t} : isTy T (some .bool) t = (decide (t = .bool) || decide (t = .int)) := rfl
theorem y_i {t} : isTy T (some .int) t = decide (Ty.int = t) := by cases t <;> rfl
theorem y_s {t} : isTy T (some .str) t = decide (Ty.str = t) := by cases t <;> rfl
theorem y_t {t} : isTy T (some .tuple) t = decide (Ty.tuple = t) := by cases t <;> rfl
theorem y_l {t} : isTy T (some .list) t = decide (Ty.list = t) := by cases t <;> rfl
theorem y_d {t} : isTy T (some .dict) t = decide (Ty.dict = t) := by cases t <;> rfl
theorem y_o {c d} : isTy T (some (.own c)) (.own d) = T.sub c d := rfl
theorem y_o1 {c} : isTy T (some (.own c)) .int = false := rfl
theorem y_o2 {c} : isTy T (some (.own c)) .str = false := rfl
theorem y_o3 {c} : isTy T (some (.own c)) .bool = false := rfl
theorem y_o4 {c} : isTy T (some (.own c)) .tuple = false := rfl
theorem y_o5 {c} : isTy T (some (.own c)) .list = false := rfl
theorem y_o6 {c} : isTy T (some (.own c)) .dict = false := rfl
end
end
section
variable {R : J → Prop}
theorem w_t {ds : List D} : walkQ st (.tup ds) R = R (.seq ds) := rfl
theorem w_s {z : List Nat} : walkQ st (.str z) R = R (.seq (z.map fun c => .str [c])) := rfl
theorem w_r {h : Nat} : walkQ st (.ref h) R = sqQ st[h]? (lz (fun _ => R (.lst h)) .mk) := by
  unfold walkQ
  dsimp only
  cases st[h]? with
  | none => rfl
  | some o => cases o <;> rfl
theorem w_e {h : Nat} : enmQ st (.ref h) R = sqQ st[h]? (lz (fun _ => R (.enm h)) .mk) := by
  unfold enmQ
  dsimp only
  cases st[h]? with
  | none => rfl
  | some o => cases o <;> rfl
theorem w_zs {a : List Nat} {b : List D} : zipQ st (.str a) (.tup b) R = R (.seq (List.zipWith (fun u v => .tup [u, v]) (a.map fun c => .str [c]) b)) := rfl
theorem w_zt {a b : List D} : zipQ st (.tup a) (.tup b) R = R (.seq (List.zipWith (fun u v => .tup [u, v]) a b)) := rfl
end
end
section
variable {T : Tab} {C : Calls}
theorem for_seq {v : Nat} {body : Env → Store → K → Prop} {k : K} (P : List D → Env → Store → Prop)
    (turn : ∀ (d : D) (r : List D) (env : Env) (st : Store) (N : Env → Store → Prop), P (d :: r) env st → (∀ e s, P r e s → N e s) → body (env.set v (some d)) st (kl N k .mk))
    (done : ∀ env st, P [] env st → k.nx env st) (ds : List D) : ∀ (r : List D) (i : Nat) (env : Env) (st : Store), ds.drop i = r → P r env st → forN (.seq ds) (.nm v) body k (r.length + 1) i env st
  | [], i, env, st, e, p => by
    unfold forN
    have : (J.seq ds).at i st = some none := by
      show some ds[i]? = _
      rw [List.getElem?_eq_none (by have := congrArg List.length e; simp at this; omega)]
    rw [this]
    exact done env st p
  | d :: r, i, env, st, e, p => by
    unfold forN
    have : (J.seq ds).at i st = some (some d) := by
      show some ds[i]? = _
      have h : (ds.drop i)[0]? = some d := by rw [e]; rfl
      rw [List.getElem?_drop] at h
      rw [← h]; rfl
    rw [this]
    have e2 : ds.drop (i + 1) = r := by rw [← List.drop_drop, e]; rfl
    exact turn d r env st (forN (.seq ds) (.nm v) body k (r.length + 1) (i + 1)) p fun e' s' p' => for_seq P turn done ds r (i + 1) e' s' e2 p'
theorem for_s {v : Nat} {body : Env → Store → K → Prop} {k : K} {ds : List D} {env : Env} {st : Store} (P : List D → Env → Store → Prop) (start : P ds env st)
    (turn : ∀ (d : D) (r : List D) (env : Env) (st : Store) (N : Env → Store → Prop), P (d :: r) env st → (∀ e s, P r e s → N e s) → body (env.set v (some d)) st (kl N k .mk))
    (done : ∀ env st, P [] env st → k.nx env st) : ∃ n, forN (.seq ds) (.nm v) body k n 0 env st :=
  ⟨_, for_seq P turn done ds ds 0 env st rfl start⟩
theorem for_i {j : J} {tg : Tg} {body : Env → Store → K → Prop} {k : K} {env : Env} {st : Store} (n : Nat) (Iv : Nat → Env → Store → Prop) (start : Iv 0 env st)
    (turn : ∀ (i : Nat) (env : Env) (st : Store) (N : Env → Store → Prop), i < n → Iv i env st → (∀ e s, Iv (i + 1) e s → N e s) → optQ (j.at i st) (lz (fun o => optQ o (lz (fun d => bindQ tg d env (lz (fun env' => body env' st (kl N k .mk)) .mk)) .mk)) .mk))
    (done : ∀ (env : Env) (st : Store), Iv n env st → j.at n st = some none ∧ k.nx env st) : ∃ m, forN j tg body k m 0 env st := by
  refine ⟨n + 1, for_j n Iv (fun i env st N hi iv hN => ?_) done n 0 env st (by omega) start⟩
  have h := turn i env st N hi iv hN
  cases e : j.at i st with
  | none => rw [e] at h; exact h.elim
  | some o =>
    rw [e] at h
    have h : optQ o _ := h
    cases o with
    | none => exact h.elim
    | some d =>
      have h : bindQ tg d env _ := h
      unfold bindQ at h
      cases e2 : bindT tg d env with
      | none => rw [e2] at h; exact h.elim
      | some env' =>
        rw [e2] at h
        exact ⟨d, env', rfl, e2, h⟩
theorem at_s {i : Nat} {st : Store} {ds : List D} : (J.seq ds).at i st = some ds[i]? := rfl
theorem cmp_seq {v : Nat} {tests : Env → Store → (Bool → Store → Prop) → Prop} {elt : Env → Store → QE → Prop} {h : Nat} {Q : QE} {env : Env} (P : List D → List D → Store → Prop)
    (turn : ∀ (d : D) (r acc : List D) (st : Store) (N : List D → Store → Prop), P (d :: r) acc st → (∀ acc' s, P r acc' s → N acc' s) →
      tests (env.set v (some d)) st (lz (fun b s1 => ifL b (lz (fun _ => elt (env.set v (some d)) s1 (lz (fun y s2 => lstQ s2[h]? (lz (fun acc => acc.length < line ∧ N (acc ++ [y]) (s2.set h (.lst (acc ++ [y])))) .mk)) .mk)) .mk) (lz (fun _ => N acc s1) .mk)) .mk))
    (done : ∀ acc st, P [] acc st → Q (.ref h) st) (ds : List D) : ∀ (r acc : List D) (i : Nat) (st : Store), ds.drop i = r → P r acc st → cmpN (.seq ds) (.nm v) tests elt h Q (r.length + 1) i env st
  | [], acc, i, st, e, p => by
    unfold cmpN
    have : (J.seq ds).at i st = some none := by
      show some ds[i]? = _
      rw [List.getElem?_eq_none (by have := congrArg List.length e; simp at this; omega)]
    rw [this]
    exact done acc st p
  | d :: r, acc, i, st, e, p => by
    unfold cmpN
    have : (J.seq ds).at i st = some (some d) := by
      show some ds[i]? = _
      have h : (ds.drop i)[0]? = some d := by rw [e]; rfl
      rw [List.getElem?_drop] at h
      rw [← h]; rfl
    rw [this]
    have e2 : ds.drop (i + 1) = r := by rw [← List.drop_drop, e]; rfl
    have q := turn d r acc st (fun acc' s => cmpN (.seq ds) (.nm v) tests elt h Q (r.length + 1) (i + 1) env s) p fun acc' s' p' => cmp_seq P turn done ds r acc' (i + 1) s' e2 p'
    have c : ∀ s2 : Store, ∀ y : D, (match s2[h]? with
          | some (.lst acc) => acc.length < line ∧ cmpN (.seq ds) (.nm v) tests elt h Q (r.length + 1) (i + 1) env (s2.set h (.lst (acc ++ [y])))
          | _ => False) = lstQ s2[h]? (fun acc => acc.length < line ∧ cmpN (.seq ds) (.nm v) tests elt h Q (r.length + 1) (i + 1) env (s2.set h (.lst (acc ++ [y])))) := fun s2 y => by
      cases s2[h]? with
      | none => rfl
      | some o => cases o <;> rfl
    show tests (env.set v (some d)) st fun b st1 => if b = true then elt (env.set v (some d)) st1 fun y st2 => (match st2[h]? with
          | some (.lst acc) => acc.length < line ∧ cmpN (.seq ds) (.nm v) tests elt h Q (r.length + 1) (i + 1) env (st2.set h (.lst (acc ++ [y])))
          | _ => False) else cmpN (.seq ds) (.nm v) tests elt h Q (r.length + 1) (i + 1) env st1
    simp only [c]
    exact q
theorem cmp_s {v : Nat} {tests : Env → Store → (Bool → Store → Prop) → Prop} {elt : Env → Store → QE → Prop} {h : Nat} {Q : QE} {env : Env} {st : Store} {ds : List D} (P : List D → List D → Store → Prop) (start : P ds [] st)
    (turn : ∀ (d : D) (r acc : List D) (st : Store) (N : List D → Store → Prop), P (d :: r) acc st → (∀ acc' s, P r acc' s → N acc' s) →
      tests (env.set v (some d)) st (lz (fun b s1 => ifL b (lz (fun _ => elt (env.set v (some d)) s1 (lz (fun y s2 => lstQ s2[h]? (lz (fun acc => acc.length < line ∧ N (acc ++ [y]) (s2.set h (.lst (acc ++ [y])))) .mk)) .mk)) .mk) (lz (fun _ => N acc s1) .mk)) .mk))
    (done : ∀ acc st, P [] acc st → Q (.ref h) st) : ∃ n, cmpN (.seq ds) (.nm v) tests elt h Q n 0 env st :=
  ⟨_, cmp_seq P turn done ds ds [] 0 st rfl start⟩
theorem for_e {a b h : Nat} {ds : List D} {body : Env → Store → K → Prop} {k : K} {env : Env} {st : Store} (P : Nat → List D → Env → Store → Prop) (start : P 0 ds env st)
    (stay : ∀ i r env st, P i r env st → sqQ st[h]? fun x => x = ds)
    (turn : ∀ (i : Nat) (d : D) (r : List D) (env : Env) (st : Store) (N : Env → Store → Prop), ds.drop i = d :: r → P i (d :: r) env st → (∀ e s, P (i + 1) r e s → N e s) → body ((env.set a (some (.int i))).set b (some d)) st (kl N k .mk))
    (done : ∀ env st, P ds.length [] env st → k.nx env st) : ∃ n, forN (.enm h) (.tp [a, b]) body k n 0 env st := by
  have at_ : ∀ (i : Nat) (s : Store), (sqQ s[h]? fun x => x = ds) → (J.enm h).at i s = some (ds[i]?.map fun d => .tup [.int i, d]) := fun i s e => by
    unfold J.at
    dsimp only
    cases q : s[h]? with
    | none => rw [q] at e; exact e.elim
    | some o =>
      rw [q] at e
      cases o with
      | lst x => rw [show x = ds from e]
      | fro x => rw [show x = ds from e]
      | _ => exact e.elim
  have main : ∀ (r : List D) (i : Nat) (env : Env) (st : Store), ds.drop i = r → i ≤ ds.length → P i r env st → forN (.enm h) (.tp [a, b]) body k (r.length + 1) i env st := fun r => by
    induction r with
    | nil =>
      intro i env st e le p
      unfold forN
      have l : ds.length ≤ i := by have := congrArg List.length e; simp at this; omega
      rw [at_ i st (stay _ _ _ _ p), List.getElem?_eq_none l]
      rw [show i = ds.length by omega] at p
      exact done env st p
    | cons d r ih =>
      intro i env st e le p
      unfold forN
      have hd : ds[i]? = some d := by
        have h : (ds.drop i)[0]? = some d := by rw [e]; rfl
        rw [List.getElem?_drop] at h
        rw [← h]; rfl
      rw [at_ i st (stay _ _ _ _ p), hd]
      have e2 : ds.drop (i + 1) = r := by rw [← List.drop_drop, e]; rfl
      exact turn i d r env st _ e p fun e' s' p' => ih (i + 1) e' s' e2 (by have := (List.getElem?_eq_some_iff.mp hd).1; omega) p'
  exact ⟨_, main ds 0 env st rfl (Nat.zero_le _) start⟩
theorem for_l {v h : Nat} {ds : List D} {body : Env → Store → K → Prop} {k : K} {env : Env} {st : Store} (P : List D → Env → Store → Prop) (start : P ds env st)
    (stay : ∀ r env st, P r env st → sqQ st[h]? fun x => x = ds)
    (turn : ∀ (d : D) (r : List D) (env : Env) (st : Store) (N : Env → Store → Prop), P (d :: r) env st → (∀ e s, P r e s → N e s) → body (env.set v (some d)) st (kl N k .mk))
    (done : ∀ env st, P [] env st → k.nx env st) : ∃ n, forN (.lst h) (.nm v) body k n 0 env st := by
  have at_ : ∀ (i : Nat) (s : Store), (sqQ s[h]? fun x => x = ds) → (J.lst h).at i s = some ds[i]? := fun i s e => by
    unfold J.at
    dsimp only
    cases q : s[h]? with
    | none => rw [q] at e; exact e.elim
    | some o =>
      rw [q] at e
      cases o with
      | lst x => rw [show x = ds from e]
      | fro x => rw [show x = ds from e]
      | _ => exact e.elim
  have main : ∀ (r : List D) (i : Nat) (env : Env) (st : Store), ds.drop i = r → P r env st → forN (.lst h) (.nm v) body k (r.length + 1) i env st := fun r => by
    induction r with
    | nil =>
      intro i env st e p
      unfold forN
      have l : ds.length ≤ i := by have := congrArg List.length e; simp at this; omega
      rw [at_ i st (stay _ _ _ p), List.getElem?_eq_none l]
      exact done env st p
    | cons d r ih =>
      intro i env st e p
      unfold forN
      have hd : ds[i]? = some d := by
        have h : (ds.drop i)[0]? = some d := by rw [e]; rfl
        rw [List.getElem?_drop] at h
        rw [← h]; rfl
      rw [at_ i st (stay _ _ _ p), hd]
      have e2 : ds.drop (i + 1) = r := by rw [← List.drop_drop, e]; rfl
      exact turn d r env st _ p fun e' s' p' => ih (i + 1) e' s' e2 p'
  exact ⟨_, main ds 0 env st rfl start⟩
theorem cmp_l {v g : Nat} {ds : List D} {tests : Env → Store → (Bool → Store → Prop) → Prop} {elt : Env → Store → QE → Prop} {h : Nat} {Q : QE} {env : Env} {st : Store} (P : List D → List D → Store → Prop) (start : P ds [] st)
    (stay : ∀ r acc st, P r acc st → sqQ st[g]? fun x => x = ds)
    (turn : ∀ (d : D) (r acc : List D) (st : Store) (N : List D → Store → Prop), P (d :: r) acc st → (∀ acc' s, P r acc' s → N acc' s) →
      tests (env.set v (some d)) st (lz (fun b s1 => ifL b (lz (fun _ => elt (env.set v (some d)) s1 (lz (fun y s2 => lstQ s2[h]? (lz (fun acc => acc.length < line ∧ N (acc ++ [y]) (s2.set h (.lst (acc ++ [y])))) .mk)) .mk)) .mk) (lz (fun _ => N acc s1) .mk)) .mk))
    (done : ∀ acc st, P [] acc st → Q (.ref h) st) : ∃ n, cmpN (.lst g) (.nm v) tests elt h Q n 0 env st := by
  have at_ : ∀ (i : Nat) (s : Store), (sqQ s[g]? fun x => x = ds) → (J.lst g).at i s = some ds[i]? := fun i s e => by
    unfold J.at
    dsimp only
    cases q : s[g]? with
    | none => rw [q] at e; exact e.elim
    | some o =>
      rw [q] at e
      cases o with
      | lst x => rw [show x = ds from e]
      | fro x => rw [show x = ds from e]
      | _ => exact e.elim
  have main : ∀ (r acc : List D) (i : Nat) (st : Store), ds.drop i = r → P r acc st → cmpN (.lst g) (.nm v) tests elt h Q (r.length + 1) i env st := fun r => by
    induction r with
    | nil =>
      intro acc i st e p
      unfold cmpN
      have l : ds.length ≤ i := by have := congrArg List.length e; simp at this; omega
      rw [at_ i st (stay _ _ _ p), List.getElem?_eq_none l]
      exact done acc st p
    | cons d r ih =>
      intro acc i st e p
      unfold cmpN
      have hd : ds[i]? = some d := by
        have h : (ds.drop i)[0]? = some d := by rw [e]; rfl
        rw [List.getElem?_drop] at h
        rw [← h]; rfl
      rw [at_ i st (stay _ _ _ p), hd]
      have e2 : ds.drop (i + 1) = r := by rw [← List.drop_drop, e]; rfl
      have q := turn d r acc st (fun acc' s => cmpN (.lst g) (.nm v) tests elt h Q (r.length + 1) (i + 1) env s) p fun acc' s' p' => ih acc' (i + 1) s' e2 p'
      have c : ∀ s2 : Store, ∀ y : D, (match s2[h]? with
            | some (.lst acc) => acc.length < line ∧ cmpN (.lst g) (.nm v) tests elt h Q (r.length + 1) (i + 1) env (s2.set h (.lst (acc ++ [y])))
            | _ => False) = lstQ s2[h]? (fun acc => acc.length < line ∧ cmpN (.lst g) (.nm v) tests elt h Q (r.length + 1) (i + 1) env (s2.set h (.lst (acc ++ [y])))) := fun s2 y => by
        cases s2[h]? with
        | none => rfl
        | some o => cases o <;> rfl
      show tests (env.set v (some d)) st fun b st1 => if b = true then elt (env.set v (some d)) st1 fun y st2 => (match st2[h]? with
            | some (.lst acc) => acc.length < line ∧ cmpN (.lst g) (.nm v) tests elt h Q (r.length + 1) (i + 1) env (st2.set h (.lst (acc ++ [y])))
            | _ => False) else cmpN (.lst g) (.nm v) tests elt h Q (r.length + 1) (i + 1) env st1
      simp only [c]
      exact q
  exact ⟨_, main ds [] 0 st rfl start⟩
end
end Y
set_option linter.all false
set_option maxHeartbeats 4000000
set_option maxRecDepth 100000
namespace Y
open PySem
mutual
def clean : Nat → D → Bool
  | _, .non => true
  | _, .int _ => true
  | _, .str x => x.all fun c => decide (c < 1114112)
  | 0, .tup _ => false
  | n + 1, .tup ds => cleans n ds
  | _, _ => false
def cleans : Nat → List D → Bool
  | _, [] => true
  | n, d :: ds => clean n d && cleans n ds
end
mutual
def pdO : D → PyData
  | .non => .none
  | .int i => .int i
  | .str x => .str ⟨x.toArray⟩
  | .tup ds => .tuple (pdOs ds)
  | _ => .none
def pdOs : List D → List PyData
  | [] => []
  | d :: ds => pdO d :: pdOs ds
end
mutual
theorem toP_clean {st : Store} : ∀ (n m : Nat) (d : D), n ≤ m → clean n d = true → toP m st d = some (pdO d)
  | n, m, .non, _, _ => by cases m <;> rfl
  | n, m, .int i, _, _ => by cases m <;> rfl
  | n, m, .str x, _, h => by
    have h : (x.all fun c => decide (c < 1114112)) = true := by cases n <;> exact h
    cases m <;> (unfold toP; rw [if_pos h]; rfl)
  | 0, _, .tup ds, _, h => by cases h
  | n + 1, 0, .tup ds, l, h => by omega
  | n + 1, m + 1, .tup ds, l, h => by
    have h : cleans n ds = true := h
    show (ds.mapM (toP m st)).map PyData.tuple = _
    rw [toPs_clean n m ds (by omega) h]
    rfl
  | n, _, .bl b, _, h => by cases n <;> cases h
  | n, _, .ref b, _, h => by cases n <;> cases h
  | n, _, .kon b, _, h => by cases n <;> cases h
theorem toPs_clean {st : Store} : ∀ (n m : Nat) (ds : List D), n ≤ m → cleans n ds = true → ds.mapM (toP m st) = some (pdOs ds)
  | n, m, [], _, _ => by simp [pdOs]
  | n, m, d :: ds, l, h => by
    have h : (clean n d && cleans n ds) = true := h
    rw [Bool.and_eq_true] at h
    rw [List.mapM_cons, toP_clean n m d l h.1, toPs_clean n m ds l h.2]
    rfl
end
mutual
theorem eqv_clean : ∀ (n m : Nat) (x y : D), clean n x = true → clean m y = true → PyData.eqv (pdO x) (pdO y) = decide (x = y)
  | n, m, .bl b, _, h, _ => by cases n <;> cases h
  | n, m, .ref b, _, h, _ => by cases n <;> cases h
  | n, m, .kon b, _, h, _ => by cases n <;> cases h
  | n, m, .non, y, _, hy => by cases y <;> first | (simp [pdO, PyData.eqv]; done) | (cases m <;> cases hy)
  | n, m, .int i, y, _, hy => by
    cases y with
    | int j => by_cases e : i = j <;> simp [pdO, PyData.eqv, e]
    | _ => first | (simp [pdO, PyData.eqv]; done) | (cases m <;> cases hy)
  | n, m, .str x, y, _, hy => by
    cases y with
    | str z => by_cases e : x = z <;> simp [pdO, PyData.eqv, e]
    | _ => first | (simp [pdO, PyData.eqv]; done) | (cases m <;> cases hy)
  | 0, m, .tup ds, _, h, _ => by cases h
  | n + 1, m, .tup ds, y, h, hy => by
    cases y with
    | tup es =>
      cases m with
      | zero => cases hy
      | succ m =>
        have := eqvs_clean n m ds es h hy
        simp only [pdO, PyData.eqv, this, D.tup.injEq]
    | _ => first | (simp [pdO, PyData.eqv]; done) | (cases m <;> cases hy)
theorem eqvs_clean : ∀ (n m : Nat) (xs ys : List D), cleans n xs = true → cleans m ys = true → PyData.eqvAll (pdOs xs) (pdOs ys) = decide (xs = ys)
  | n, m, [], [], _, _ => by simp [pdOs, PyData.eqvAll]
  | n, m, [], y :: ys, _, _ => by simp [pdOs, PyData.eqvAll]
  | n, m, x :: xs, [], _, _ => by simp [pdOs, PyData.eqvAll]
  | n, m, x :: xs, y :: ys, h, hy => by
    have h : (clean n x && cleans n xs) = true := h
    have hy : (clean m y && cleans m ys) = true := hy
    rw [Bool.and_eq_true] at h hy
    have a := eqv_clean n m x y h.1 hy.1
    have b := eqvs_clean n m xs ys h.2 hy.2
    simp only [pdOs, PyData.eqvAll, a, b]
    by_cases e : x = y <;> by_cases e2 : xs = ys <;> simp [e, e2]
end
theorem eqQ_clean {st : Store} {x y : D} {n m : Nat} {Q : Bool → Prop} (hx : clean n x = true) (hy : clean m y = true) (ln : n ≤ 60) (lm : m ≤ 60) (h : Q (decide (x = y))) : eqQ st x y Q := by
  have ex : ∃ d e, toP 60 st x = some d ∧ toP 60 st y = some e ∧ Q (PyData.eqv d e) := ⟨_, _, toP_clean n 60 x ln hx, toP_clean m 60 y lm hy, by rw [eqv_clean n m x y hx hy]; exact h⟩
  have i1 : ∀ a b : Int, decide (D.int a = D.int b) = decide (a = b) := fun a b => by simp
  have i2 : ∀ a b : List Nat, decide (D.str a = D.str b) = decide (a = b) := fun a b => by simp
  cases x <;> cases y <;> first
    | exact ex
    | (rw [i1] at h; exact h)
    | (rw [i2] at h; exact h)
    | (simp only [reduceCtorEq, decide_false] at h; exact h)
    | (simp only [decide_true] at h; exact h)
    | (cases n <;> cases hx)
theorem eqQ_lists {st : Store} {a b : Nat} {xs ys : List D} {n m : Nat} {Q : Bool → Prop} (ea : st[a]? = some (.lst xs)) (eb : st[b]? = some (.lst ys)) (hx : cleans n xs = true) (hy : cleans m ys = true) (ln : n ≤ 59) (lm : m ≤ 59) (h : Q (decide (xs = ys))) : eqQ st (.ref a) (.ref b) Q := by
  refine ⟨.list (pdOs xs), .list (pdOs ys), ?_, ?_, ?_⟩
  · unfold toP
    rw [ea]
    dsimp only
    rw [toPs_clean n 59 xs ln hx]
    rfl
  · unfold toP
    rw [eb]
    dsimp only
    rw [toPs_clean m 59 ys lm hy]
    rfl
  · simp only [PyData.eqv, eqvs_clean n m xs ys hx hy]
    exact h
end Y
set_option linter.all false
set_option maxHeartbeats 4000000
set_option maxRecDepth 100000
namespace Y
open PySem
structure Keep (a b : Store) : Prop where
  len : a.length ≤ b.length
  same : ∀ h, h < a.length → b[h]? = a[h]?
theorem Keep.refl (a : Store) : Keep a a := ⟨Nat.le_refl _, fun _ _ => rfl⟩
theorem Keep.trans {a b c : Store} (x : Keep a b) (y : Keep b c) : Keep a c := ⟨Nat.le_trans x.len y.len, fun h l => (y.same h (Nat.lt_of_lt_of_le l x.len)).trans (x.same h l)⟩
theorem Keep.app {a b : Store} (x : Keep a b) (c : Store) : Keep a (b ++ c) := ⟨by rw [List.length_append]; exact Nat.le_trans x.len (Nat.le_add_right _ _), fun h l => by rw [List.getElem?_append_left (Nat.lt_of_lt_of_le l x.len)]; exact x.same h l⟩
theorem Keep.new (a c : Store) : Keep a (a ++ c) := (Keep.refl a).app c
theorem Keep.set {a b : Store} (x : Keep a b) {h : Nat} (o : O) (l : a.length ≤ h) : Keep a (b.set h o) := ⟨by rw [List.length_set]; exact x.len, fun g m => by rw [List.getElem?_set_ne (by omega)]; exact x.same g m⟩
theorem Keep.get {a b : Store} (x : Keep a b) {h : Nat} {o : O} (e : a[h]? = some o) : b[h]? = some o := (x.same h (List.getElem?_eq_some_iff.mp e).1).trans e
theorem lt_of_get {a : Store} {h : Nat} {o : O} (e : a[h]? = some o) : h < a.length := (List.getElem?_eq_some_iff.mp e).1
theorem get_app {a : Store} {h : Nat} {o : O} (c : Store) (e : a[h]? = some o) : (a ++ c)[h]? = some o := (Keep.new a c).get e
theorem get_snoc (a : Store) (o : O) : (a ++ [o])[a.length]? = some o := List.getElem?_concat_length
theorem get_snoc2 (a c : Store) (o : O) : (a ++ [o] ++ c)[a.length]? = some o := get_app c (get_snoc a o)
theorem get_set {a : Store} {h g : Nat} {o o' : O} (e : a[h]? = some o) (ne : g ≠ h) : (a.set g o')[h]? = some o := by rw [List.getElem?_set_ne ne]; exact e
theorem set_get {a : Store} {h : Nat} {o o' : O} (e : a[h]? = some o) : (a.set h o')[h]? = some o' := List.getElem?_set_self (lt_of_get e)
def rg (i m : Nat) : List D := (List.range' i m).map fun (j : Nat) => D.int (j : Int)
theorem rngD_rg (n : Nat) : rngD 0 n = rg 0 n := by
  unfold rngD rg
  rw [List.range_eq_range']
  refine List.map_congr_left fun j _ => ?_
  rw [Int.zero_add]
theorem rg_succ (i m : Nat) : rg i (m + 1) = .int i :: rg (i + 1) m := by
  unfold rg
  rw [List.range'_succ]
  rfl
theorem rg_zero (i : Nat) : rg i 0 = [] := rfl
theorem rg_len (i m : Nat) : (rg i m).length = m := by simp [rg]
theorem getIx_n {xs : List D} {i : Nat} {F : D → Prop} (h : i < xs.length) : getIx xs (i : Int) F = F xs[i] := getIx_of (j := i) (by rw [ix_pos (by omega) (by omega)]; rfl) (List.getElem?_eq_getElem h)
theorem sum_le {ys : List (List Nat)} {m : Nat} (h : ∀ y ∈ ys, y.length ≤ m) : (ys.map List.length).sum ≤ m * ys.length := by
  induction ys with
  | nil => simp
  | cons y ys ih =>
    have h1 := h y List.mem_cons_self
    have h2 := ih fun z hz => h z (List.mem_cons_of_mem _ hz)
    rw [List.map_cons, List.sum_cons, List.length_cons, Nat.mul_succ]
    omega
theorem seq_l {st : Store} {h : Nat} {xs : List D} (e : st[h]? = some (.lst xs)) : seqOf st (.ref h) = some xs := by
  unfold seqOf
  dsimp only
  rw [e]
theorem join_snoc {α : Type} {p : α} {a b c : List α} (e : a = b ++ p :: c) : a = (b ++ [p]) ++ c := by rw [e]; simp
theorem le_line {a : Nat} (h : a ≤ 1000000) : a ≤ line := Nat.le_trans h (by decide)
theorem lt_line {a : Nat} (h : a ≤ 1000000) : a < line := Nat.lt_of_le_of_lt h (by decide)
structure Kb (v : Nat) (a b : Store) : Prop where
  len : a.length ≤ b.length
  same : ∀ h, h ≠ v → h < a.length → b[h]? = a[h]?
theorem Kb.of {v : Nat} {a b : Store} (x : Keep a b) : Kb v a b := ⟨x.len, fun h _ l => x.same h l⟩
theorem Kb.refl (v : Nat) (a : Store) : Kb v a a := .of (.refl a)
theorem Kb.trans {v : Nat} {a b c : Store} (x : Kb v a b) (y : Kb v b c) : Kb v a c := ⟨Nat.le_trans x.len y.len, fun h n l => (y.same h n (Nat.lt_of_lt_of_le l x.len)).trans (x.same h n l)⟩
theorem Kb.keep {v : Nat} {a b c : Store} (x : Kb v a b) (y : Keep b c) : Kb v a c := x.trans (.of y)
theorem Kb.set {v : Nat} {a b : Store} (x : Kb v a b) (o : O) : Kb v a (b.set v o) := ⟨by rw [List.length_set]; exact x.len, fun h n l => by rw [List.getElem?_set_ne (Ne.symm n)]; exact x.same h n l⟩
theorem Kb.get {v : Nat} {a b : Store} (x : Kb v a b) {h : Nat} {o : O} (e : a[h]? = some o) (n : h ≠ v) : b[h]? = some o := (x.same h n (lt_of_get e)).trans e
theorem Kb.cut {v : Nat} {a b c : Store} (x : Kb v (a ++ c) b) (l : a.length ≤ v) : Keep a b := ⟨by have := x.len; rw [List.length_append] at this; omega, fun h m => by rw [x.same h (by omega) (by rw [List.length_append]; omega), List.getElem?_append_left m]⟩
theorem dcm_l {v g : Nat} {ds : List D} {tests : Env → Store → (Bool → Store → Prop) → Prop} {kx vx : Env → Store → QE → Prop} {h : Nat} {Q : QE} {env : Env} {st : Store} (P : List D → List (D × D) → Store → Prop) (start : P ds [] st)
    (stay : ∀ r acc st, P r acc st → sqQ st[g]? fun x => x = ds)
    (turn : ∀ (d : D) (r : List D) (acc : List (D × D)) (st : Store) (N : List (D × D) → Store → Prop), P (d :: r) acc st → (∀ acc' s, P r acc' s → N acc' s) →
      tests (env.set v (some d)) st (lz (fun b s1 => ifL b (lz (fun _ => kx (env.set v (some d)) s1 (lz (fun x s2 => vx (env.set v (some d)) s2 (lz (fun y s3 => dicQ s3[h]? (lz (fun kvs => keyD x = true ∧ kvs.length < line ∧ N (putK kvs x y) (s3.set h (.dic (putK kvs x y)))) .mk)) .mk)) .mk)) .mk) (lz (fun _ => N acc s1) .mk)) .mk))
    (done : ∀ acc st, P [] acc st → Q (.ref h) st) : ∃ n, dcmN (.lst g) (.nm v) tests kx vx h Q n 0 env st := by
  have at_ : ∀ (i : Nat) (s : Store), (sqQ s[g]? fun x => x = ds) → (J.lst g).at i s = some ds[i]? := fun i s e => by
    unfold J.at
    dsimp only
    cases q : s[g]? with
    | none => rw [q] at e; exact e.elim
    | some o =>
      rw [q] at e
      cases o with
      | lst x => rw [show x = ds from e]
      | fro x => rw [show x = ds from e]
      | _ => exact e.elim
  have main : ∀ (r : List D) (acc : List (D × D)) (i : Nat) (st : Store), ds.drop i = r → P r acc st → dcmN (.lst g) (.nm v) tests kx vx h Q (r.length + 1) i env st := fun r => by
    induction r with
    | nil =>
      intro acc i st e p
      unfold dcmN
      have l : ds.length ≤ i := by have := congrArg List.length e; simp at this; omega
      rw [at_ i st (stay _ _ _ p), List.getElem?_eq_none l]
      exact done acc st p
    | cons d r ih =>
      intro acc i st e p
      unfold dcmN
      have hd : ds[i]? = some d := by
        have h : (ds.drop i)[0]? = some d := by rw [e]; rfl
        rw [List.getElem?_drop] at h
        rw [← h]; rfl
      rw [at_ i st (stay _ _ _ p), hd]
      have e2 : ds.drop (i + 1) = r := by rw [← List.drop_drop, e]; rfl
      have q := turn d r acc st (fun acc' s => dcmN (.lst g) (.nm v) tests kx vx h Q (r.length + 1) (i + 1) env s) p fun acc' s' p' => ih acc' (i + 1) s' e2 p'
      have c : ∀ (s3 : Store) (x y : D), (match s3[h]? with
            | some (.dic kvs) => keyD x = true ∧ kvs.length < line ∧ dcmN (.lst g) (.nm v) tests kx vx h Q (r.length + 1) (i + 1) env (s3.set h (.dic (putK kvs x y)))
            | _ => False) = dicQ s3[h]? (fun kvs => keyD x = true ∧ kvs.length < line ∧ dcmN (.lst g) (.nm v) tests kx vx h Q (r.length + 1) (i + 1) env (s3.set h (.dic (putK kvs x y)))) := fun s3 x y => by
        cases s3[h]? with
        | none => rfl
        | some o => cases o <;> rfl
      show tests (env.set v (some d)) st fun b st1 => if b = true then kx (env.set v (some d)) st1 fun x st2 => vx (env.set v (some d)) st2 fun y st3 => (match st3[h]? with
            | some (.dic kvs) => keyD x = true ∧ kvs.length < line ∧ dcmN (.lst g) (.nm v) tests kx vx h Q (r.length + 1) (i + 1) env (st3.set h (.dic (putK kvs x y)))
            | _ => False) else dcmN (.lst g) (.nm v) tests kx vx h Q (r.length + 1) (i + 1) env st1
      simp only [c]
      exact q
  exact ⟨_, main ds [] 0 st rfl start⟩
theorem putK_new {kvs : List (D × D)} {k v : D} (h : ∀ p ∈ kvs, p.1 ≠ k) : putK kvs k v = kvs ++ [(k, v)] := by
  unfold putK
  have : getK kvs k = none := by
    unfold getK
    rw [List.find?_eq_none.mpr fun p hp => by simp [h p hp]]
    rfl
  rw [this]
  rfl
theorem getK_mem {kvs : List (D × D)} {k v : D} (nd : (kvs.map (·.1)).Nodup) (h : (k, v) ∈ kvs) : getK kvs k = some v := by
  induction kvs with
  | nil => cases h
  | cons p kvs ih =>
    rw [List.map_cons, List.nodup_cons] at nd
    unfold getK
    rw [List.find?_cons]
    by_cases e : p.1 = k
    · rw [decide_eq_true e]
      rcases List.mem_cons.mp h with z | z
      · rw [← z]; rfl
      · exact absurd (List.mem_map.mpr ⟨_, z, e.symm⟩) nd.1
    · rw [decide_eq_false e]
      rcases List.mem_cons.mp h with z | z
      · rw [← z] at e; exact absurd rfl e
      · exact ih nd.2 z
theorem cmp_map {α : Type} {v g : Nat} {f F : α → D} {xs : List α} {tests : Env → Store → (Bool → Store → Prop) → Prop} {elt : Env → Store → QE → Prop} {Q : QE} {env : Env} {st : Store} (eg : st[g]? = some (.lst (xs.map f))) (hl : xs.length ≤ 1000000)
    (ht : ∀ e s P, P true s → tests e s P) (turn : ∀ x ∈ xs, ∀ (s : Store) (Q' : QE), Keep st s → Q' (F x) s → elt (env.set v (some (f x))) s Q') (done : Q (.ref st.length) (st ++ [.lst (xs.map F)])) : ∃ n, cmpN (.lst g) (.nm v) tests elt st.length Q n 0 env (st ++ [.lst []]) := by
  refine cmp_l (ds := xs.map f) (fun r acc s => ∃ dn ys, xs = dn ++ ys ∧ r = ys.map f ∧ acc = dn.map F ∧ s = st ++ [.lst acc]) ⟨[], xs, rfl, rfl, rfl, rfl⟩ (fun r acc s ⟨dn, ys, e1, e2, e3, e4⟩ => by rw [e4, get_app _ eg]; rfl) (fun d r acc s N ⟨dn, ys, e1, e2, e3, e4⟩ hN => ?_) (fun acc s ⟨dn, ys, e1, e2, e3, e4⟩ => ?_)
  · subst e4
    cases ys with
    | nil => cases e2
    | cons y ys =>
      cases e2
      refine ht _ _ _ ?_
      show ifL true _ _
      rw [z_ifT, lz1]
      refine turn y (by rw [e1]; simp) _ _ (.new _ _) ?_
      rw [lz1, get_snoc, lstQ_1, lz1]
      refine ⟨lt_line (by rw [e3, List.length_map]; have := congrArg List.length e1; simp at this; omega), hN _ _ ⟨dn ++ [y], ys, join_snoc e1, rfl, ?_, set_last _ _ _⟩⟩
      rw [e3]
      simp
  · subst e4
    cases ys with
    | cons y ys => cases e2
    | nil =>
      rw [List.append_nil] at e1
      subst e1 e3
      exact done
theorem cmp_mapS {α : Type} {v : Nat} {f F : α → D} {xs : List α} {tests : Env → Store → (Bool → Store → Prop) → Prop} {elt : Env → Store → QE → Prop} {Q : QE} {env : Env} {st : Store} (hl : xs.length ≤ 1000000)
    (ht : ∀ e s P, P true s → tests e s P) (turn : ∀ x ∈ xs, ∀ (s : Store) (Q' : QE), Keep st s → Q' (F x) s → elt (env.set v (some (f x))) s Q') (done : Q (.ref st.length) (st ++ [.lst (xs.map F)])) : ∃ n, cmpN (.seq (xs.map f)) (.nm v) tests elt st.length Q n 0 env (st ++ [.lst []]) := by
  refine cmp_s (fun r acc s => ∃ dn ys, xs = dn ++ ys ∧ r = ys.map f ∧ acc = dn.map F ∧ s = st ++ [.lst acc]) ⟨[], xs, rfl, rfl, rfl, rfl⟩ (fun d r acc s N ⟨dn, ys, e1, e2, e3, e4⟩ hN => ?_) (fun acc s ⟨dn, ys, e1, e2, e3, e4⟩ => ?_)
  · subst e4
    cases ys with
    | nil => cases e2
    | cons y ys =>
      cases e2
      refine ht _ _ _ ?_
      show ifL true _ _
      rw [z_ifT, lz1]
      refine turn y (by rw [e1]; simp) _ _ (.new _ _) ?_
      rw [lz1, get_snoc, lstQ_1, lz1]
      refine ⟨lt_line (by rw [e3, List.length_map]; have := congrArg List.length e1; simp at this; omega), hN _ _ ⟨dn ++ [y], ys, join_snoc e1, rfl, ?_, set_last _ _ _⟩⟩
      rw [e3]
      simp
  · subst e4
    cases ys with
    | cons y ys => cases e2
    | nil =>
      rw [List.append_nil] at e1
      subst e1 e3
      exact done
theorem dcm_map {α : Type} {v g : Nat} {f A B : α → D} {xs : List α} {tests : Env → Store → (Bool → Store → Prop) → Prop} {kx vx : Env → Store → QE → Prop} {Q : QE} {env : Env} {st : Store} (eg : st[g]? = some (.lst (xs.map f))) (hl : xs.length ≤ 1000000) (nd : (xs.map A).Nodup) (hk : ∀ x ∈ xs, keyD (A x) = true)
    (ht : ∀ e s P, P true s → tests e s P) (turn : ∀ x ∈ xs, ∀ (s : Store) (Q' : QE), Keep st s → Q' (A x) s → kx (env.set v (some (f x))) s Q') (turn2 : ∀ x ∈ xs, ∀ (s : Store) (Q' : QE), Keep st s → Q' (B x) s → vx (env.set v (some (f x))) s Q')
    (done : Q (.ref st.length) (st ++ [.dic (xs.map fun x => (A x, B x))])) : ∃ n, dcmN (.lst g) (.nm v) tests kx vx st.length Q n 0 env (st ++ [.dic []]) := by
  refine dcm_l (ds := xs.map f) (fun r acc s => ∃ dn ys, xs = dn ++ ys ∧ r = ys.map f ∧ acc = (dn.map fun x => (A x, B x)) ∧ s = st ++ [.dic acc]) ⟨[], xs, rfl, rfl, rfl, rfl⟩ (fun r acc s ⟨dn, ys, e1, e2, e3, e4⟩ => by rw [e4, get_app _ eg]; rfl) (fun d r acc s N ⟨dn, ys, e1, e2, e3, e4⟩ hN => ?_) (fun acc s ⟨dn, ys, e1, e2, e3, e4⟩ => ?_)
  · subst e4
    cases ys with
    | nil => cases e2
    | cons y ys =>
      cases e2
      have my : y ∈ xs := by rw [e1]; simp
      refine ht _ _ _ ?_
      show ifL true _ _
      rw [z_ifT, lz1]
      refine turn y my _ _ (.new _ _) ?_
      rw [lz1]
      refine turn2 y my _ _ (.new _ _) ?_
      rw [lz1, get_snoc, dicQ_1, lz1]
      have ne : ∀ p ∈ acc, p.1 ≠ A y := fun p hp e => by
        rw [e3] at hp
        obtain ⟨z, hz, rfl⟩ := List.mem_map.mp hp
        rw [e1, List.map_append, List.map_cons] at nd
        exact (List.nodup_append.mp nd).2.2 _ (List.mem_map.mpr ⟨z, hz, rfl⟩) _ List.mem_cons_self e
      rw [putK_new ne]
      refine ⟨hk y my, lt_line (by rw [e3, List.length_map]; have := congrArg List.length e1; simp at this; omega), hN _ _ ⟨dn ++ [y], ys, join_snoc e1, rfl, ?_, set_last _ _ _⟩⟩
      rw [e3]
      simp
  · subst e4
    cases ys with
    | cons y ys => cases e2
    | nil =>
      rw [List.append_nil] at e1
      subst e1 e3
      exact done
end Y
set_option Elab.async false
set_option linter.all false
set_option maxRecDepth 100000
set_option maxHeartbeats 4000000
namespace Y
open PySem
section
variable {T : Tab} {C : Calls}
def SeqAt (j : J) (ds : List D) (st : Store) : Prop := ∀ i : Nat, j.at i st = some ds[i]?
theorem sa_s {ds : List D} {st : Store} : SeqAt (.seq ds) ds st := fun _ => rfl
theorem sa_l {g : Nat} {ds : List D} {st : Store} (e : st[g]? = some (.lst ds)) : SeqAt (.lst g) ds st := fun i => by
  show (match st[g]? with
    | some (.lst ds) => some ds[i]?
    | some (.fro ds) => some ds[i]?
    | _ => none) = _
  rw [e]
theorem sa_f {g : Nat} {ds : List D} {st : Store} (e : st[g]? = some (.fro ds)) : SeqAt (.lst g) ds st := fun i => by
  show (match st[g]? with
    | some (.lst ds) => some ds[i]?
    | some (.fro ds) => some ds[i]?
    | _ => none) = _
  rw [e]
def enmD : Nat → List D → List D
  | _, [] => []
  | i, d :: r => .tup [.int i, d] :: enmD (i + 1) r
theorem enmD_get : ∀ (ds : List D) (i n : Nat), (enmD i ds)[n]? = ds[n]?.map fun d => .tup [.int ((i + n : Nat) : Int), d]
  | [], i, n => by simp [enmD]
  | d :: r, i, 0 => by simp [enmD]
  | d :: r, i, n + 1 => by
    rw [enmD, List.getElem?_cons_succ, List.getElem?_cons_succ, enmD_get r (i + 1) n]
    congr 1
    funext x
    rw [show i + 1 + n = i + (n + 1) by omega]
theorem sa_e {g : Nat} {ds : List D} {st : Store} (e : st[g]? = some (.lst ds)) : SeqAt (.enm g) (enmD 0 ds) st := fun i => by
  show (match st[g]? with
    | some (.lst ds) => some (ds[i]?.map fun d => D.tup [.int i, d])
    | some (.fro ds) => some (ds[i]?.map fun d => D.tup [.int i, d])
    | _ => none) = _
  rw [e, enmD_get, Nat.zero_add]
theorem drop_get {ds r : List D} {d : D} {i : Nat} (e : ds.drop i = d :: r) : ds[i]? = some d ∧ ds.drop (i + 1) = r := by
  refine ⟨?_, by rw [← List.drop_drop, e]; rfl⟩
  have h : (ds.drop i)[0]? = some d := by rw [e]; rfl
  rw [List.getElem?_drop] at h
  rw [← h]; rfl
theorem drop_end {ds : List D} {i : Nat} (e : ds.drop i = []) : ds[i]? = none := List.getElem?_eq_none (by have := congrArg List.length e; simp at this; omega)
theorem for_a {j : J} {tg : Tg} {ds : List D} {body : Env → Store → K → Prop} {k : K} {env : Env} {st : Store} (P : List D → Env → Store → Prop) (start : P ds env st)
    (stay : ∀ r env st, P r env st → SeqAt j ds st)
    (turn : ∀ (d : D) (r : List D) (env : Env) (st : Store) (N : Env → Store → Prop), P (d :: r) env st → (∀ e s, P r e s → N e s) → bindQ tg d env (lz (fun env' => body env' st (kl N k .mk)) .mk))
    (done : ∀ env st, P [] env st → k.nx env st) : ∃ n, forN j tg body k n 0 env st := by
  have main : ∀ (r : List D) (i : Nat) (env : Env) (st : Store), ds.drop i = r → P r env st → forN j tg body k (r.length + 1) i env st := fun r => by
    induction r with
    | nil =>
      intro i env st e p
      unfold forN
      rw [stay _ _ _ p i, drop_end e]
      exact done env st p
    | cons d r ih =>
      intro i env st e p
      unfold forN
      obtain ⟨e1, e2⟩ := drop_get e
      rw [stay _ _ _ p i, e1]
      have q := turn d r env st (forN j tg body k (r.length + 1) (i + 1)) p fun e' s' p' => ih (i + 1) e' s' e2 p'
      unfold bindQ at q
      cases eb : bindT tg d env with
      | none => rw [eb] at q; exact q.elim
      | some env' =>
        rw [eb] at q
        dsimp only
        rw [eb]
        exact q
  exact ⟨_, main ds 0 env st rfl start⟩
theorem cmp_a {j : J} {tg : Tg} {ds : List D} {tests : Env → Store → (Bool → Store → Prop) → Prop} {elt : Env → Store → QE → Prop} {h : Nat} {Q : QE} {env : Env} {st : Store} (P : List D → List D → Store → Prop) (start : P ds [] st)
    (stay : ∀ r acc st, P r acc st → SeqAt j ds st)
    (turn : ∀ (d : D) (r acc : List D) (st : Store) (N : List D → Store → Prop), P (d :: r) acc st → (∀ acc' s, P r acc' s → N acc' s) →
      bindQ tg d env (lz (fun env' => tests env' st (lz (fun b s1 => ifL b (lz (fun _ => elt env' s1 (lz (fun y s2 => lstQ s2[h]? (lz (fun acc => acc.length < line ∧ N (acc ++ [y]) (s2.set h (.lst (acc ++ [y])))) .mk)) .mk)) .mk) (lz (fun _ => N acc s1) .mk)) .mk)) .mk))
    (done : ∀ acc st, P [] acc st → Q (.ref h) st) : ∃ n, cmpN j tg tests elt h Q n 0 env st := by
  have main : ∀ (r acc : List D) (i : Nat) (st : Store), ds.drop i = r → P r acc st → cmpN j tg tests elt h Q (r.length + 1) i env st := fun r => by
    induction r with
    | nil =>
      intro acc i st e p
      unfold cmpN
      rw [stay _ _ _ p i, drop_end e]
      exact done acc st p
    | cons d r ih =>
      intro acc i st e p
      unfold cmpN
      obtain ⟨e1, e2⟩ := drop_get e
      rw [stay _ _ _ p i, e1]
      have q := turn d r acc st (fun acc' s => cmpN j tg tests elt h Q (r.length + 1) (i + 1) env s) p fun acc' s' p' => ih acc' (i + 1) s' e2 p'
      have c : ∀ s2 : Store, ∀ y : D, (match s2[h]? with
            | some (.lst acc) => acc.length < line ∧ cmpN j tg tests elt h Q (r.length + 1) (i + 1) env (s2.set h (.lst (acc ++ [y])))
            | _ => False) = lstQ s2[h]? (fun acc => acc.length < line ∧ cmpN j tg tests elt h Q (r.length + 1) (i + 1) env (s2.set h (.lst (acc ++ [y])))) := fun s2 y => by
        cases s2[h]? with
        | none => rfl
        | some o => cases o <;> rfl
      unfold bindQ at q
      cases eb : bindT tg d env with
      | none => rw [eb] at q; exact q.elim
      | some env' =>
        rw [eb] at q
        dsimp only
        rw [eb]
        show tests env' st fun b st1 => if b = true then elt env' st1 fun y st2 => (match st2[h]? with
            | some (.lst acc) => acc.length < line ∧ cmpN j tg tests elt h Q (r.length + 1) (i + 1) env (st2.set h (.lst (acc ++ [y])))
            | _ => False) else cmpN j tg tests elt h Q (r.length + 1) (i + 1) env st1
        simp only [c]
        exact q
  exact ⟨_, main ds [] 0 st rfl start⟩
theorem dcm_a {j : J} {tg : Tg} {ds : List D} {tests : Env → Store → (Bool → Store → Prop) → Prop} {kx vx : Env → Store → QE → Prop} {h : Nat} {Q : QE} {env : Env} {st : Store} (P : List D → List (D × D) → Store → Prop) (start : P ds [] st)
    (stay : ∀ r acc st, P r acc st → SeqAt j ds st)
    (turn : ∀ (d : D) (r : List D) (acc : List (D × D)) (st : Store) (N : List (D × D) → Store → Prop), P (d :: r) acc st → (∀ acc' s, P r acc' s → N acc' s) →
      bindQ tg d env (lz (fun env' => tests env' st (lz (fun b s1 => ifL b (lz (fun _ => kx env' s1 (lz (fun x s2 => vx env' s2 (lz (fun y s3 => dicQ s3[h]? (lz (fun kvs => keyD x = true ∧ kvs.length < line ∧ N (putK kvs x y) (s3.set h (.dic (putK kvs x y)))) .mk)) .mk)) .mk)) .mk) (lz (fun _ => N acc s1) .mk)) .mk)) .mk))
    (done : ∀ acc st, P [] acc st → Q (.ref h) st) : ∃ n, dcmN j tg tests kx vx h Q n 0 env st := by
  have main : ∀ (r : List D) (acc : List (D × D)) (i : Nat) (st : Store), ds.drop i = r → P r acc st → dcmN j tg tests kx vx h Q (r.length + 1) i env st := fun r => by
    induction r with
    | nil =>
      intro acc i st e p
      unfold dcmN
      rw [stay _ _ _ p i, drop_end e]
      exact done acc st p
    | cons d r ih =>
      intro acc i st e p
      unfold dcmN
      obtain ⟨e1, e2⟩ := drop_get e
      rw [stay _ _ _ p i, e1]
      have q := turn d r acc st (fun acc' s => dcmN j tg tests kx vx h Q (r.length + 1) (i + 1) env s) p fun acc' s' p' => ih acc' (i + 1) s' e2 p'
      have c : ∀ (s3 : Store) (x y : D), (match s3[h]? with
            | some (.dic kvs) => keyD x = true ∧ kvs.length < line ∧ dcmN j tg tests kx vx h Q (r.length + 1) (i + 1) env (s3.set h (.dic (putK kvs x y)))
            | _ => False) = dicQ s3[h]? (fun kvs => keyD x = true ∧ kvs.length < line ∧ dcmN j tg tests kx vx h Q (r.length + 1) (i + 1) env (s3.set h (.dic (putK kvs x y)))) := fun s3 x y => by
        cases s3[h]? with
        | none => rfl
        | some o => cases o <;> rfl
      unfold bindQ at q
      cases eb : bindT tg d env with
      | none => rw [eb] at q; exact q.elim
      | some env' =>
        rw [eb] at q
        dsimp only
        rw [eb]
        show tests env' st fun b st1 => if b = true then kx env' st1 fun x st2 => vx env' st2 fun y st3 => (match st3[h]? with
            | some (.dic kvs) => keyD x = true ∧ kvs.length < line ∧ dcmN j tg tests kx vx h Q (r.length + 1) (i + 1) env (st3.set h (.dic (putK kvs x y)))
            | _ => False) else dcmN j tg tests kx vx h Q (r.length + 1) (i + 1) env st1
        simp only [c]
        exact q
  exact ⟨_, main ds [] 0 st rfl start⟩
theorem cmp_mapA {α : Type} {j : J} {tg : Tg} {f F : α → D} {xs : List α} {tests : Env → Store → (Bool → Store → Prop) → Prop} {elt : Env → Store → QE → Prop} {Q : QE} {env : Env} {st : Store} (hl : xs.length ≤ 1000000) (stay : ∀ acc, SeqAt j (xs.map f) (st ++ [.lst acc]))
    (ht : ∀ e s P, P true s → tests e s P) (turn : ∀ x ∈ xs, ∀ (s : Store) (Q' : QE), Keep st s → Q' (F x) s → bindQ tg (f x) env fun e => elt e s Q') (done : Q (.ref st.length) (st ++ [.lst (xs.map F)])) : ∃ n, cmpN j tg tests elt st.length Q n 0 env (st ++ [.lst []]) := by
  refine cmp_a (ds := xs.map f) (fun r acc s => ∃ dn ys, xs = dn ++ ys ∧ r = ys.map f ∧ acc = dn.map F ∧ s = st ++ [.lst acc]) ⟨[], xs, rfl, rfl, rfl, rfl⟩ (fun r acc s ⟨dn, ys, e1, e2, e3, e4⟩ => by rw [e4]; exact stay acc) (fun d r acc s N ⟨dn, ys, e1, e2, e3, e4⟩ hN => ?_) (fun acc s ⟨dn, ys, e1, e2, e3, e4⟩ => ?_)
  · subst e4
    cases ys with
    | nil => cases e2
    | cons y ys =>
      cases e2
      have q := turn y (by rw [e1]; simp) (st ++ [.lst acc]) (lz (fun y s2 => lstQ s2[st.length]? (lz (fun acc => acc.length < line ∧ N (acc ++ [y]) (s2.set st.length (.lst (acc ++ [y])))) .mk)) .mk) (.new _ _) (by
        rw [lz1, get_snoc, lstQ_1, lz1]
        refine ⟨lt_line (by rw [e3, List.length_map]; have := congrArg List.length e1; simp at this; omega), hN _ _ ⟨dn ++ [y], ys, join_snoc e1, rfl, ?_, set_last _ _ _⟩⟩
        rw [e3]
        simp)
      unfold bindQ at q ⊢
      cases eb : bindT tg (f y) env with
      | none => rw [eb] at q; exact q
      | some env' =>
        rw [eb] at q
        show tests env' _ _
        refine ht _ _ _ ?_
        show ifL true _ _
        rw [z_ifT]
        exact q
  · subst e4
    cases ys with
    | cons y ys => cases e2
    | nil =>
      rw [List.append_nil] at e1
      subst e1 e3
      exact done
end
end Y
set_option Elab.async false
set_option linter.all false
set_option maxRecDepth 100000
set_option maxHeartbeats 0
namespace Y.K_k12
open PySem PySem.Spec PyProof.Rows L2
def top (i : Nat) : Stmt := PySem.Challenge.pw_pastless_k12_pasts_led_and_answered.main.body.getD i (.Pass ⟨0, 0, 0, 0⟩)
def inn (i j : Nat) : Stmt := match top i with
  | .ClassDef _ _ _ b _ _ _ _ _ _ _ => b.getD j (.Pass ⟨0, 0, 0, 0⟩)
  | _ => .Pass ⟨0, 0, 0, 0⟩
def b__wall : B := (.cons (.whl (.tv (.con (.bl true))) (.cons .pas .nil)) .nil)
def f__wall : Fd := ⟨⟨("_wall", none), "_wall", "_wall", defArgs (top 0), defBody (top 0), defScope (top 0), [], []⟩, ["k"], ["k"], ⟨1, 1, b__wall⟩, []⟩
abbrev n__wall : Nat := 0
def b_is_integer : B := (.cons (.ret (.and (.isi (.var 0) [.int]) (.not (.isi (.var 0) [.bool])))) .nil)
def f_is_integer : Fd := ⟨⟨("is_integer", none), "is_integer", "is_integer", defArgs (top 18), defBody (top 18), defScope (top 18), [], []⟩, ["thing"], ["thing"], ⟨1, 1, b_is_integer⟩, []⟩
abbrev n_is_integer : Nat := 1
def b_is_name : B := (.cons (.ifS (.or (.not (.tv (.isi (.var 0) [.str]))) (.not (.chain .le .le (.con (.int 1)) (.pr .len (.cons (.var 0) .nil)) (.con (.int 8))))) (.cons (.ret (.con (.bl false))) .nil) .nil) (.cons (.forS (.nm 1) (.sq (.var 0)) (.cons (.ifS (.cmp .nin (.var 1) (.glo 0)) (.cons (.ret (.con (.bl false))) .nil) .nil) .nil)) (.cons (.ret (.con (.bl true))) .nil)))
def f_is_name : Fd := ⟨⟨("is_name", none), "is_name", "is_name", defArgs (top 19), defBody (top 19), defScope (top 19), [], []⟩, ["thing", "letter"], ["thing"], ⟨1, 2, b_is_name⟩, []⟩
abbrev n_is_name : Nat := 2
def b_is_expression : B := (.cons (.ifS (.tv (.isi (.var 0) [.str])) (.cons (.ret (.cmp .inn (.var 0) (.glo 3))) .nil) .nil) (.cons (.ifS (.tv (.isi (.var 0) [.tuple])) (.cons (.ifS (.or (.cmp .eq (.var 1) (.con (.int 0))) (.or (.cmp .ne (.pr .len (.cons (.var 0) .nil)) (.con (.int 3))) (.or (.not (.tv (.isi (.idx (.var 0) (.con (.int 0))) [.str]))) (.cmp .nin (.idx (.var 0) (.con (.int 0))) (.glo 1))))) (.cons (.ret (.con (.bl false))) .nil) .nil) (.cons (.ret (.and (.call 3 (.cons (.idx (.var 0) (.con (.int 1))) (.cons (.bin .sub (.var 1) (.con (.int 1))) .nil)) []) (.call 3 (.cons (.idx (.var 0) (.con (.int 2))) (.cons (.bin .sub (.var 1) (.con (.int 1))) .nil)) []))) .nil)) .nil) (.cons (.ret (.and (.call 1 (.cons (.var 0) .nil) []) (.chain .le .le (.con (.int 0)) (.var 0) (.con (.int 9))))) .nil)))
def f_is_expression : Fd := ⟨⟨("is_expression", none), "is_expression", "is_expression", defArgs (top 20), defBody (top 20), defScope (top 20), [.int 6], []⟩, ["thing", "depth"], ["thing", "depth"], ⟨2, 2, b_is_expression⟩, [(.int 6)]⟩
abbrev n_is_expression : Nat := 3
def b_good_cells : B := (.cons (.ifS (.or (.not (.tv (.isi (.var 0) [.list]))) (.not (.chain .le .le (.con (.int 1)) (.pr .len (.cons (.var 0) .nil)) (.con (.int 6))))) (.cons (.ret (.con (.bl false))) .nil) .nil) (.cons (.forS (.nm 1) (.sq (.var 0)) (.cons (.ifS (.or (.not (.tv (.isi (.var 1) [.tuple]))) (.cmp .ne (.pr .len (.cons (.var 1) .nil)) (.con (.int 2)))) (.cons (.ret (.con (.bl false))) .nil) .nil) (.cons (.ifS (.or (.not (.tv (.call 1 (.cons (.idx (.var 1) (.con (.int 0))) .nil) []))) (.not (.chain .le .le (.con (.int 1)) (.idx (.var 1) (.con (.int 0))) (.con (.int 9))))) (.cons (.ret (.con (.bl false))) .nil) .nil) (.cons (.ifS (.or (.not (.tv (.call 1 (.cons (.idx (.var 1) (.con (.int 1))) .nil) []))) (.not (.chain .le .lt (.con (.int 0)) (.idx (.var 1) (.con (.int 1))) (.idx (.var 1) (.con (.int 0)))))) (.cons (.ret (.con (.bl false))) .nil) .nil) .nil)))) (.cons (.ret (.con (.bl true))) .nil)))
def f_good_cells : Fd := ⟨⟨("good_cells", none), "good_cells", "good_cells", defArgs (top 22), defBody (top 22), defScope (top 22), [], []⟩, ["thing", "cell"], ["thing"], ⟨1, 2, b_good_cells⟩, []⟩
abbrev n_good_cells : Nat := 4
def b_good_heads : B := (.cons (.ifS (.or (.not (.tv (.isi (.var 0) [.list]))) (.not (.chain .le .le (.con (.int 1)) (.pr .len (.cons (.var 0) .nil)) (.con (.int 8))))) (.cons (.ret (.con (.bl false))) .nil) .nil) (.cons (.asg (.nm 2) (.lst .nil)) (.cons (.forS (.nm 3) (.sq (.var 0)) (.cons (.ifS (.or (.not (.tv (.isi (.var 3) [.tuple]))) (.cmp .ne (.pr .len (.cons (.var 3) .nil)) (.var 1))) (.cons (.ret (.con (.bl false))) .nil) .nil) (.cons (.ifS (.or (.not (.tv (.call 2 (.cons (.idx (.var 3) (.con (.int 0))) .nil) []))) (.cmp .inn (.idx (.var 3) (.con (.int 0))) (.var 2))) (.cons (.ret (.con (.bl false))) .nil) .nil) (.cons (.ifS (.or (.not (.tv (.call 1 (.cons (.idx (.var 3) (.con (.int 1))) .nil) []))) (.not (.chain .le .le (.con (.int 1)) (.idx (.var 3) (.con (.int 1))) (.con (.int 9))))) (.cons (.ret (.con (.bl false))) .nil) .nil) (.cons (.exp (.me .append (.var 2) (.cons (.idx (.var 3) (.con (.int 0))) .nil))) .nil))))) (.cons (.ret (.con (.bl true))) .nil))))
def f_good_heads : Fd := ⟨⟨("good_heads", none), "good_heads", "good_heads", defArgs (top 23), defBody (top 23), defScope (top 23), [], []⟩, ["thing", "width", "seen", "deed"], ["thing", "width"], ⟨2, 4, b_good_heads⟩, []⟩
abbrev n_good_heads : Nat := 5
def b_good_deeds : B := (.cons (.ifS (.not (.tv (.call 5 (.cons (.var 0) (.cons (.con (.int 3)) .nil)) []))) (.cons (.ret (.con (.bl false))) .nil) .nil) (.cons (.forS (.nm 2) (.sq (.var 0)) (.cons (.asg (.nm 3) (.make 6 39 (.cons (.var 1) .nil))) (.cons (.ifS (.not (.tv (.meth [(6, 40)] (.var 3) (.cons (.idx (.var 2) (.con (.int 2))) (.cons (.con (.int 1)) (.cons (.con (.int 0)) .nil)))))) (.cons (.ret (.con (.bl false))) .nil) .nil) .nil))) (.cons (.ret (.con (.bl true))) .nil)))
def f_good_deeds : Fd := ⟨⟨("good_deeds", none), "good_deeds", "good_deeds", defArgs (top 24), defBody (top 24), defScope (top 24), [], []⟩, ["thing", "many_cells", "deed", "body"], ["thing", "many_cells"], ⟨2, 4, b_good_deeds⟩, []⟩
abbrev n_good_deeds : Nat := 6
def b_has_coin : B := (.cons (.forS (.nm 1) (.sq (.var 0)) (.cons (.ifS (.cmp .eq (.idx (.var 1) (.con (.int 0))) (.con (.str [99, 111, 105, 110]))) (.cons (.ret (.con (.bl true))) .nil) .nil) (.cons (.ifS (.and (.cmp .eq (.idx (.var 1) (.con (.int 0))) (.con (.str [105, 102]))) (.or (.tv (.call 7 (.cons (.idx (.var 1) (.con (.int 2))) .nil) [])) (.tv (.call 7 (.cons (.idx (.var 1) (.con (.int 3))) .nil) [])))) (.cons (.ret (.con (.bl true))) .nil) .nil) (.cons (.ifS (.and (.cmp .eq (.idx (.var 1) (.con (.int 0))) (.con (.str [116, 105, 109, 101, 115]))) (.tv (.call 7 (.cons (.idx (.var 1) (.con (.int 2))) .nil) []))) (.cons (.ret (.con (.bl true))) .nil) .nil) .nil)))) (.cons (.ret (.con (.bl false))) .nil))
def f_has_coin : Fd := ⟨⟨("has_coin", none), "has_coin", "has_coin", defArgs (top 25), defBody (top 25), defScope (top 25), [], []⟩, ["rows", "row"], ["rows"], ⟨1, 2, b_has_coin⟩, []⟩
abbrev n_has_coin : Nat := 7
def b_calls_of : B := (.cons (.asg (.nm 1) (.lst .nil)) (.cons (.forS (.nm 2) (.sq (.var 0)) (.cons (.forS (.nm 3) (.rng1 (.idx (.var 2) (.con (.int 1)))) (.cons (.exp (.me .append (.var 1) (.cons (.tup (.cons (.idx (.var 2) (.con (.int 0))) (.cons (.var 3) .nil))) .nil))) .nil)) .nil)) (.cons (.ret (.var 1)) .nil)))
def f_calls_of : Fd := ⟨⟨("calls_of", none), "calls_of", "calls_of", defArgs (top 26), defBody (top 26), defScope (top 26), [], []⟩, ["deeds", "calls", "deed", "argument"], ["deeds"], ⟨1, 4, b_calls_of⟩, []⟩
abbrev n_calls_of : Nat := 8
def b_is_state_of : B := (.cons (.ifS (.or (.not (.tv (.isi (.var 1) [.tuple]))) (.cmp .ne (.pr .len (.cons (.var 1) .nil)) (.pr .len (.cons (.var 0) .nil)))) (.cons (.ret (.con (.bl false))) .nil) .nil) (.cons (.forS (.tp [2, 3]) (.zip (.var 0) (.var 1)) (.cons (.ifS (.or (.not (.tv (.call 1 (.cons (.var 3) .nil) []))) (.not (.chain .le .lt (.con (.int 0)) (.var 3) (.var 2)))) (.cons (.ret (.con (.bl false))) .nil) .nil) .nil)) (.cons (.ret (.con (.bl true))) .nil)))
def f_is_state_of : Fd := ⟨⟨("is_state_of", none), "is_state_of", "is_state_of", defArgs (top 27), defBody (top 27), defScope (top 27), [], []⟩, ["sizes", "thing", "size", "held"], ["sizes", "thing"], ⟨2, 4, b_is_state_of⟩, []⟩
abbrev n_is_state_of : Nat := 9
def b_is_state : B := (.cons (.ret (.call 9 (.cons (.fld 0 (.var 0)) (.cons (.var 1) .nil)) [])) .nil)
def f_is_state : Fd := ⟨⟨("is_state", none), "is_state", "is_state", defArgs (top 28), defBody (top 28), defScope (top 28), [], []⟩, ["vault", "thing"], ["vault", "thing"], ⟨2, 2, b_is_state⟩, []⟩
abbrev n_is_state : Nat := 10
def b_is_call : B := (.cons (.ifS (.or (.not (.tv (.isi (.var 1) [.tuple]))) (.cmp .ne (.pr .len (.cons (.var 1) .nil)) (.con (.int 2)))) (.cons (.ret (.con (.bl false))) .nil) .nil) (.cons (.ifS (.or (.not (.tv (.isi (.idx (.var 1) (.con (.int 0))) [.str]))) (.not (.tv (.call 1 (.cons (.idx (.var 1) (.con (.int 1))) .nil) [])))) (.cons (.ret (.con (.bl false))) .nil) .nil) (.cons (.ret (.and (.cmp .inn (.idx (.var 1) (.con (.int 0))) (.fld 1 (.var 0))) (.chain .le .lt (.con (.int 0)) (.idx (.var 1) (.con (.int 1))) (.idx (.fld 1 (.var 0)) (.idx (.var 1) (.con (.int 0))))))) .nil)))
def f_is_call : Fd := ⟨⟨("is_call", none), "is_call", "is_call", defArgs (top 29), defBody (top 29), defScope (top 29), [], []⟩, ["vault", "thing"], ["vault", "thing"], ⟨2, 2, b_is_call⟩, []⟩
abbrev n_is_call : Nat := 11
def b_row_fault : B := (.cons (.ifS (.not (.tv (.isi (.var 1) [.list]))) (.cons (.ret (.neg (.con (.int 1)))) .nil) .nil) (.cons (.forS (.tp [2, 3]) (.enm (.var 1)) (.cons (.ifS (.not (.tv (.call 11 (.cons (.var 0) (.cons (.var 3) .nil)) []))) (.cons (.ret (.var 2)) .nil) .nil) .nil)) (.cons (.ret (.con .non)) .nil)))
def f_row_fault : Fd := ⟨⟨("row_fault", none), "row_fault", "row_fault", defArgs (top 30), defBody (top 30), defScope (top 30), [], []⟩, ["vault", "thing", "at", "item"], ["vault", "thing"], ⟨2, 4, b_row_fault⟩, []⟩
abbrev n_row_fault : Nat := 12
def b_check_state : B := (.cons (.ifS (.not (.tv (.call 10 (.cons (.var 0) (.cons (.var 1) .nil)) []))) (.cons (.rais 2 .nil) .nil) .nil) .nil)
def f_check_state : Fd := ⟨⟨("check_state", none), "check_state", "check_state", defArgs (top 31), defBody (top 31), defScope (top 31), [], []⟩, ["vault", "thing"], ["vault", "thing"], ⟨2, 2, b_check_state⟩, []⟩
abbrev n_check_state : Nat := 13
def b_check_row : B := (.cons (.asg (.nm 2) (.call 12 (.cons (.var 0) (.cons (.var 1) .nil)) [])) (.cons (.ifS (.notN (.var 2)) (.cons (.rais 5 (.cons (.var 2) .nil)) .nil) .nil) .nil))
def f_check_row : Fd := ⟨⟨("check_row", none), "check_row", "check_row", defArgs (top 32), defBody (top 32), defScope (top 32), [], []⟩, ["vault", "thing", "fault"], ["vault", "thing"], ⟨2, 3, b_check_row⟩, []⟩
abbrev n_check_row : Nat := 14
def b_check_plain : B := (.cons (.ifS (.tv (.fld 2 (.var 0))) (.cons (.rais 3 .nil) .nil) .nil) .nil)
def f_check_plain : Fd := ⟨⟨("check_plain", none), "check_plain", "check_plain", defArgs (top 33), defBody (top 33), defScope (top 33), [], []⟩, ["vault"], ["vault"], ⟨1, 1, b_check_plain⟩, []⟩
abbrev n_check_plain : Nat := 15
def b_value : B := (.cons (.ifS (.tv (.isi (.var 0) [.str])) (.cons (.ret (.idx (.var 1) (.var 0))) .nil) .nil) (.cons (.ifS (.tv (.isi (.var 0) [.int])) (.cons (.ret (.var 0)) .nil) .nil) (.cons (.asg (.nm 2) (.call 16 (.cons (.idx (.var 0) (.con (.int 1))) (.cons (.var 1) .nil)) [])) (.cons (.asg (.nm 3) (.call 16 (.cons (.idx (.var 0) (.con (.int 2))) (.cons (.var 1) .nil)) [])) (.cons (.ifS (.cmp .eq (.idx (.var 0) (.con (.int 0))) (.con (.str [43]))) (.cons (.ret (.bin .mod (.bin .add (.var 2) (.var 3)) (.con (.int 10)))) .nil) .nil) (.cons (.ifS (.cmp .eq (.idx (.var 0) (.con (.int 0))) (.con (.str [45]))) (.cons (.ret (.bin .mod (.bin .sub (.var 2) (.var 3)) (.con (.int 10)))) .nil) .nil) (.cons (.ifS (.cmp .eq (.idx (.var 0) (.con (.int 0))) (.con (.str [42]))) (.cons (.ret (.bin .mod (.pr .int (.cons (.bin .mul (.var 2) (.var 3)) .nil)) (.con (.int 10)))) .nil) .nil) (.cons (.ifS (.cmp .eq (.idx (.var 0) (.con (.int 0))) (.con (.str [61]))) (.cons (.ret (.pr .int (.cons (.cmp .eq (.var 2) (.var 3)) .nil))) .nil) .nil) (.cons (.ret (.pr .int (.cons (.cmp .lt (.var 2) (.var 3)) .nil))) .nil)))))))))
def f_value : Fd := ⟨⟨("value", none), "value", "value", defArgs (top 35), defBody (top 35), defScope (top 35), [], []⟩, ["e", "held", "left", "right"], ["e", "held"], ⟨2, 4, b_value⟩, []⟩
abbrev n_value : Nat := 16
def b_run : B := (.cons (.asg (.nm 4) (.make 7 43 (.cons (.var 0) (.cons (.var 1) (.cons (.var 2) (.cons (.var 3) .nil)))))) (.cons (.ret (.tup (.cons (.fld 6 (.var 4)) (.cons (.pr .tuple (.cons (.fld 5 (.var 4)) .nil)) (.cons (.fld 4 (.var 4)) (.cons (.fld 3 (.var 4)) .nil)))))) .nil))
def f_run : Fd := ⟨⟨("run", none), "run", "run", defArgs (top 37), defBody (top 37), defScope (top 37), [], []⟩, ["vault", "state", "call", "coins", "walk"], ["vault", "state", "call", "coins"], ⟨4, 5, b_run⟩, []⟩
abbrev n_run : Nat := 17
def b_led_from : B := (.cons (.forS (.nm 3) (.sq (.var 2)) (.cons (.asg (.nm 1) (.idx (.call 17 (.cons (.var 0) (.cons (.var 1) (.cons (.var 3) (.cons (.lst .nil) .nil)))) []) (.con (.int 1)))) .nil)) (.cons (.ret (.var 1)) .nil))
def f_led_from : Fd := ⟨⟨("led_from", none), "led_from", "led_from", defArgs (top 38), defBody (top 38), defScope (top 38), [], []⟩, ["vault", "state", "row", "call"], ["vault", "state", "row"], ⟨3, 4, b_led_from⟩, []⟩
abbrev n_led_from : Nat := 18
def b_led : B := (.cons (.exp (.call 15 (.cons (.var 0) .nil) [])) (.cons (.exp (.call 14 (.cons (.var 0) (.cons (.var 1) .nil)) [])) (.cons (.ret (.call 18 (.cons (.var 0) (.cons (.fld 7 (.var 0)) (.cons (.var 1) .nil))) [])) .nil)))
def f_led : Fd := ⟨⟨("led", none), "led", "led", defArgs (top 39), defBody (top 39), defScope (top 39), [], []⟩, ["vault", "row"], ["vault", "row"], ⟨2, 2, b_led⟩, []⟩
abbrev n_led : Nat := 19
def b_answered : B := (.cons (.exp (.call 15 (.cons (.var 0) .nil) [])) (.cons (.exp (.call 14 (.cons (.var 0) (.cons (.var 1) .nil)) [])) (.cons (.asg (.nm 2) (.lst .nil)) (.cons (.asg (.nm 3) (.fld 7 (.var 0))) (.cons (.forS (.nm 4) (.sq (.var 1)) (.cons (.asg (.nm 5) (.call 17 (.cons (.var 0) (.cons (.var 3) (.cons (.var 4) (.cons (.lst .nil) .nil)))) [])) (.cons (.exp (.me .append (.var 2) (.cons (.idx (.var 5) (.con (.int 0))) .nil))) (.cons (.asg (.nm 3) (.idx (.var 5) (.con (.int 1)))) .nil)))) (.cons (.ret (.var 2)) .nil))))))
def f_answered : Fd := ⟨⟨("answered", none), "answered", "answered", defArgs (top 40), defBody (top 40), defScope (top 40), [], []⟩, ["vault", "row", "answers", "state", "call", "told"], ["vault", "row"], ⟨2, 6, b_answered⟩, []⟩
abbrev n_answered : Nat := 20
def b_begun : B := (.cons (.exp (.call 13 (.cons (.var 0) (.cons (.var 1) .nil)) [])) (.cons (.asg (.nm 2) (.comp (.tup (.cons (.var 3) (.cons (.var 4) .nil))) (.tp [3, 4]) (.zip (.fld 0 (.var 0)) (.var 1)) .nil [3, 4])) (.cons (.ret (.make 8 49 (.cons (.var 2) (.cons (.pr .list (.cons (.fld 8 (.var 0)) .nil)) .nil)))) .nil)))
def f_begun : Fd := ⟨⟨("begun", none), "begun", "begun", defArgs (top 43), defBody (top 43), defScope (top 43), [], []⟩, ["vault", "state", "cells", "size", "held"], ["vault", "state"], ⟨2, 5, b_begun⟩, []⟩
abbrev n_begun : Nat := 21
def b__law_pool : B := (.cons (.ifS (.cmp .eq (.pr .len (.cons (.var 0) .nil)) (.con (.int 0))) (.cons (.ret (.lst (.cons (.con (.int 0)) (.cons (.bin .add (.con (.int 5)) (.bin .mul (.con (.int 1009)) (.var 1))) (.cons (.con (.int 0)) .nil))))) .nil) .nil) (.cons (.asg (.nm 2) (.pr .abs (.cons (.idx (.var 0) (.bin .mod (.var 1) (.pr .len (.cons (.var 0) .nil)))) .nil))) (.cons (.asg (.nm 3) (.bin .add (.bin .add (.bin .mod (.pr .int (.cons (.var 2) .nil)) (.con (.int 2147483629))) (.bin .mul (.con (.int 1009)) (.var 1))) (.pr .int (.cons (.cmp .lt (.idx (.var 0) (.bin .mod (.var 1) (.pr .len (.cons (.var 0) .nil)))) (.con (.int 0))) .nil)))) (.cons (.ifS (.and (.cmp .lt (.var 1) (.pr .len (.cons (.var 0) .nil))) (.cmp .ge (.var 2) (.bin .pow (.con (.int 10)) (.con (.int 18))))) (.cons (.ret (.lst (.cons (.var 2) (.cons (.var 3) (.cons (.con (.int 0)) .nil))))) .nil) .nil) (.cons (.ret (.lst (.cons (.con (.int 0)) (.cons (.var 3) (.cons (.con (.int 0)) .nil))))) .nil)))))
def f__law_pool : Fd := ⟨⟨("_law_pool", none), "_law_pool", "_law_pool", defArgs (top 45), defBody (top 45), defScope (top 45), [], []⟩, ["_law_script", "_law_k", "_law_cell", "_law_seed"], ["_law_script", "_law_k"], ⟨2, 4, b__law_pool⟩, []⟩
abbrev n__law_pool : Nat := 22
def b__law_draw : B := (.cons (.ifS (.cmp .gt (.idx (.var 0) (.con (.int 0))) (.con (.int 0))) (.cons (.asg (.nm 2) (.bin .mod (.pr .int (.cons (.idx (.var 0) (.con (.int 0))) .nil)) (.var 1))) (.cons (.seti (.var 0) (.con (.int 0)) (.bin .fdiv (.idx (.var 0) (.con (.int 0))) (.var 1))) (.cons (.ret (.var 2)) .nil))) .nil) (.cons (.seti (.var 0) (.con (.int 2)) (.bin .add (.idx (.var 0) (.con (.int 2))) (.con (.int 1)))) (.cons (.asg (.nm 3) (.bin .mod (.pr .int (.cons (.bin .mul (.bin .add (.idx (.var 0) (.con (.int 1))) (.con (.int 1))) (.bin .add (.bin .mul (.con (.int 7919)) (.idx (.var 0) (.con (.int 2)))) (.con (.int 104729)))) .nil)) (.con (.int 2147483647)))) (.cons (.asg (.nm 3) (.bin .mod (.pr .int (.cons (.bin .mul (.var 3) (.bin .add (.bin .fdiv (.var 3) (.con (.int 1009))) (.con (.int 69621)))) .nil)) (.con (.int 2147483647)))) (.cons (.asg (.nm 3) (.bin .mod (.pr .int (.cons (.bin .mul (.var 3) (.bin .add (.bin .fdiv (.var 3) (.con (.int 2003))) (.con (.int 40692)))) .nil)) (.con (.int 2147483399)))) (.cons (.ret (.bin .mod (.pr .int (.cons (.bin .fdiv (.var 3) (.con (.int 16))) .nil)) (.var 1))) .nil))))))
def f__law_draw : Fd := ⟨⟨("_law_draw", none), "_law_draw", "_law_draw", defArgs (top 46), defBody (top 46), defScope (top 46), [], []⟩, ["_law_pool_here", "_law_many", "_law_digit", "_law_number"], ["_law_pool_here", "_law_many"], ⟨2, 4, b__law_draw⟩, []⟩
abbrev n__law_draw : Nat := 23
def b__law_cells : B := (.cons (.asg (.nm 1) (.bin .add (.con (.int 1)) (.call 23 (.cons (.var 0) (.cons (.con (.int 3)) .nil)) []))) (.cons (.asg (.nm 2) (.lst .nil)) (.cons (.forS (.nm 3) (.rng1 (.var 1)) (.cons (.asg (.nm 4) (.bin .add (.con (.int 2)) (.call 23 (.cons (.var 0) (.cons (.bin .sub (.con (.int 4)) (.bin .mul (.con (.int 2)) (.pr .int (.cons (.cmp .eq (.var 1) (.con (.int 3))) .nil)))) .nil)) []))) (.cons (.exp (.me .append (.var 2) (.cons (.tup (.cons (.var 4) (.cons (.call 23 (.cons (.var 0) (.cons (.var 4) .nil)) []) .nil))) .nil))) .nil))) (.cons (.ret (.var 2)) .nil))))
def f__law_cells : Fd := ⟨⟨("_law_cells", none), "_law_cells", "_law_cells", defArgs (top 47), defBody (top 47), defScope (top 47), [], []⟩, ["_law_pool_here", "_law_many", "_law_cells_here", "_law_k", "_law_size"], ["_law_pool_here"], ⟨1, 5, b__law_cells⟩, []⟩
abbrev n__law_cells : Nat := 24
def b__law_e : B := (.cons (.asg (.nm 2) (.call 23 (.cons (.var 0) (.cons (.con (.int 4)) .nil)) [])) (.cons (.ifS (.or (.cmp .eq (.var 2) (.con (.int 0))) (.and (.cmp .eq (.var 2) (.con (.int 3))) (.cmp .eq (.var 1) (.con (.int 0))))) (.cons (.ret (.call 23 (.cons (.var 0) (.cons (.con (.int 10)) .nil)) [])) .nil) .nil) (.cons (.ifS (.cmp .lt (.var 2) (.con (.int 3))) (.cons (.ret (.idx (.con (.str [97, 98, 99, 100, 120])) (.call 23 (.cons (.var 0) (.cons (.con (.int 5)) .nil)) []))) .nil) .nil) (.cons (.asg (.nm 3) (.idx (.con (.str [43, 45, 42, 61, 60])) (.call 23 (.cons (.var 0) (.cons (.con (.int 5)) .nil)) []))) (.cons (.asg (.nm 4) (.call 25 (.cons (.var 0) (.cons (.bin .sub (.var 1) (.con (.int 1))) .nil)) [])) (.cons (.ret (.tup (.cons (.var 3) (.cons (.var 4) (.cons (.call 25 (.cons (.var 0) (.cons (.bin .sub (.var 1) (.con (.int 1))) .nil)) []) .nil))))) .nil))))))
def f__law_e : Fd := ⟨⟨("_law_e", none), "_law_e", "_law_e", defArgs (top 48), defBody (top 48), defScope (top 48), [], []⟩, ["_law_pool_here", "_law_depth", "_law_kind", "_law_sign", "_law_left"], ["_law_pool_here", "_law_depth"], ⟨2, 5, b__law_e⟩, []⟩
abbrev n__law_e : Nat := 25
def b__law_rows : B := (.cons (.asg (.nm 5) (.lst .nil)) (.cons (.forS (.nm 6) (.rng1 (.bin .add (.pr .int (.cons (.cmp .eq (.var 2) (.con (.int 2))) .nil)) (.call 23 (.cons (.var 0) (.cons (.con (.int 3)) .nil)) []))) (.cons (.asg (.nm 7) (.call 23 (.cons (.var 0) (.cons (.con (.int 10)) .nil)) [])) (.cons (.asg (.nm 8) (.call 23 (.cons (.var 0) (.cons (.var 1) .nil)) [])) (.cons (.asg (.nm 9) (.idx (.con (.str [97, 98, 99, 100])) (.call 23 (.cons (.var 0) (.cons (.con (.int 4)) .nil)) []))) (.cons (.asg (.nm 10) (.call 25 (.cons (.var 0) (.cons (.con (.int 2)) .nil)) [])) (.cons (.ifS (.cmp .lt (.var 7) (.con (.int 2))) (.cons (.exp (.me .append (.var 5) (.cons (.tup (.cons (.con (.str [114, 101, 97, 100])) (.cons (.var 9) (.cons (.var 8) .nil)))) .nil))) .nil) (.cons (.ifS (.cmp .lt (.var 7) (.con (.int 4))) (.cons (.exp (.me .append (.var 5) (.cons (.tup (.cons (.con (.str [115, 101, 116])) (.cons (.var 8) (.cons (.var 10) .nil)))) .nil))) .nil) (.cons (.ifS (.cmp .eq (.var 7) (.con (.int 4))) (.cons (.exp (.me .append (.var 5) (.cons (.tup (.cons (.con (.str [115, 119, 97, 112])) (.cons (.var 9) (.cons (.var 8) (.cons (.var 10) (.cons (.call 25 (.cons (.var 0) (.cons (.con (.int 1)) .nil)) []) .nil)))))) .nil))) .nil) (.cons (.ifS (.cmp .eq (.var 7) (.con (.int 5))) (.cons (.exp (.me .append (.var 5) (.cons (.tup (.cons (.con (.str [97, 110, 115, 119, 101, 114])) (.cons (.var 10) .nil))) .nil))) .nil) (.cons (.ifS (.and (.cmp .eq (.var 7) (.con (.int 6))) (.cmp .gt (.var 2) (.con (.int 0)))) (.cons (.asg (.nm 11) (.call 26 (.cons (.var 0) (.cons (.var 1) (.cons (.bin .sub (.var 2) (.con (.int 1))) (.cons (.var 3) (.cons (.var 4) .nil))))) [])) (.cons (.exp (.me .append (.var 5) (.cons (.tup (.cons (.con (.str [105, 102])) (.cons (.var 10) (.cons (.var 11) (.cons (.call 26 (.cons (.var 0) (.cons (.var 1) (.cons (.bin .sub (.var 2) (.con (.int 1))) (.cons (.var 3) (.cons (.var 4) .nil))))) []) .nil))))) .nil))) .nil)) (.cons (.ifS (.and (.cmp .eq (.var 7) (.con (.int 7))) (.cmp .gt (.var 2) (.con (.int 0)))) (.cons (.asg (.nm 12) (.call 23 (.cons (.var 0) (.cons (.con (.int 5)) .nil)) [])) (.cons (.ifS (.cmp .eq (.var 12) (.con (.int 4))) (.cons (.asg (.nm 12) (.con (.str [120]))) .nil) .nil) (.cons (.exp (.me .append (.var 5) (.cons (.tup (.cons (.con (.str [116, 105, 109, 101, 115])) (.cons (.var 12) (.cons (.call 26 (.cons (.var 0) (.cons (.var 1) (.cons (.bin .sub (.var 2) (.con (.int 1))) (.cons (.bin .add (.var 3) (.con (.int 1))) (.cons (.var 4) .nil))))) []) .nil)))) .nil))) .nil))) (.cons (.ifS (.and (.cmp .eq (.var 7) (.con (.int 8))) (.and (.cmp .eq (.var 3) (.con (.int 0))) (.cmp .gt (.idx (.var 4) (.con (.int 0))) (.con (.int 0))))) (.cons (.seti (.var 4) (.con (.int 0)) (.bin .sub (.idx (.var 4) (.con (.int 0))) (.con (.int 1)))) (.cons (.exp (.me .append (.var 5) (.cons (.tup (.cons (.con (.str [99, 111, 105, 110])) (.cons (.var 9) .nil))) .nil))) .nil)) (.cons (.exp (.me .append (.var 5) (.cons (.tup (.cons (.con (.str [107, 101, 101, 112])) (.cons (.var 9) (.cons (.var 10) .nil)))) .nil))) .nil)) .nil)) .nil)) .nil)) .nil)) .nil)) .nil)) .nil)))))) (.cons (.ret (.pr .tuple (.cons (.var 5) .nil))) .nil)))
def f__law_rows : Fd := ⟨⟨("_law_rows", none), "_law_rows", "_law_rows", defArgs (top 49), defBody (top 49), defScope (top 49), [], []⟩, ["_law_pool_here", "_law_many", "_law_depth", "_law_loops", "_law_budget", "_law_rows_here", "_law_turn", "_law_kind", "_law_cell", "_law_reg", "_law_e_here", "_law_first", "_law_count"], ["_law_pool_here", "_law_many", "_law_depth", "_law_loops", "_law_budget"], ⟨5, 13, b__law_rows⟩, []⟩
abbrev n__law_rows : Nat := 26
def b__law_body : B := (.cons (.asg (.nm 3) (.call 23 (.cons (.var 0) (.cons (.con (.int 12)) .nil)) [])) (.cons (.asg (.nm 4) (.call 23 (.cons (.var 0) (.cons (.var 1) .nil)) [])) (.cons (.asg (.nm 5) (.call 23 (.cons (.var 0) (.cons (.var 1) .nil)) [])) (.cons (.asg (.nm 6) (.call 25 (.cons (.var 0) (.cons (.con (.int 1)) .nil)) [])) (.cons (.ifS (.cmp .eq (.var 3) (.con (.int 0))) (.cons (.ret (.tup (.cons (.tup (.cons (.con (.str [115, 101, 116])) (.cons (.var 4) (.cons (.con (.str [120])) .nil)))) .nil))) .nil) .nil) (.cons (.ifS (.cmp .eq (.var 3) (.con (.int 1))) (.cons (.ret (.tup (.cons (.tup (.cons (.con (.str [114, 101, 97, 100])) (.cons (.con (.str [97])) (.cons (.var 4) .nil)))) (.cons (.tup (.cons (.con (.str [97, 110, 115, 119, 101, 114])) (.cons (.con (.str [97])) .nil))) .nil)))) .nil) .nil) (.cons (.ifS (.cmp .eq (.var 3) (.con (.int 2))) (.cons (.ret (.tup (.cons (.tup (.cons (.con (.str [114, 101, 97, 100])) (.cons (.con (.str [97])) (.cons (.var 4) .nil)))) (.cons (.tup (.cons (.con (.str [115, 101, 116])) (.cons (.var 4) (.cons (.tup (.cons (.con (.str [43])) (.cons (.con (.str [97])) (.cons (.var 6) .nil)))) .nil)))) (.cons (.tup (.cons (.con (.str [97, 110, 115, 119, 101, 114])) (.cons (.con (.str [97])) .nil))) .nil))))) .nil) .nil) (.cons (.ifS (.cmp .eq (.var 3) (.con (.int 3))) (.cons (.ret (.tup (.cons (.tup (.cons (.con (.str [114, 101, 97, 100])) (.cons (.con (.str [97])) (.cons (.var 4) .nil)))) (.cons (.tup (.cons (.con (.str [115, 101, 116])) (.cons (.var 5) (.cons (.con (.str [97])) .nil)))) (.cons (.tup (.cons (.con (.str [115, 101, 116])) (.cons (.var 4) (.cons (.con (.str [120])) .nil)))) .nil))))) .nil) .nil) (.cons (.ifS (.cmp .eq (.var 3) (.con (.int 4))) (.cons (.ret (.tup (.cons (.tup (.cons (.con (.str [115, 101, 116])) (.cons (.var 4) (.cons (.var 6) .nil)))) .nil))) .nil) .nil) (.cons (.ifS (.cmp .eq (.var 3) (.con (.int 5))) (.cons (.ret (.tup (.cons (.tup (.cons (.con (.str [115, 119, 97, 112])) (.cons (.con (.str [98])) (.cons (.var 4) (.cons (.var 6) (.cons (.con (.str [120])) .nil)))))) (.cons (.tup (.cons (.con (.str [97, 110, 115, 119, 101, 114])) (.cons (.con (.str [98])) .nil))) .nil)))) .nil) .nil) (.cons (.ifS (.cmp .eq (.var 3) (.con (.int 6))) (.cons (.ret (.tup (.cons (.tup (.cons (.con (.str [114, 101, 97, 100])) (.cons (.con (.str [97])) (.cons (.var 4) .nil)))) (.cons (.tup (.cons (.con (.str [114, 101, 97, 100])) (.cons (.con (.str [98])) (.cons (.var 5) .nil)))) (.cons (.tup (.cons (.con (.str [105, 102])) (.cons (.tup (.cons (.con (.str [61])) (.cons (.con (.str [97])) (.cons (.con (.str [98])) .nil)))) (.cons (.tup (.cons (.tup (.cons (.con (.str [97, 110, 115, 119, 101, 114])) (.cons (.var 6) .nil))) .nil)) (.cons (.tup (.cons (.tup (.cons (.con (.str [115, 101, 116])) (.cons (.var 4) (.cons (.con (.str [98])) .nil)))) .nil)) .nil))))) .nil))))) .nil) .nil) (.cons (.ifS (.cmp .eq (.var 3) (.con (.int 7))) (.cons (.ret (.tup (.cons (.tup (.cons (.con (.str [114, 101, 97, 100])) (.cons (.con (.str [97])) (.cons (.var 4) .nil)))) (.cons (.tup (.cons (.con (.str [114, 101, 97, 100])) (.cons (.con (.str [98])) (.cons (.var 5) .nil)))) (.cons (.tup (.cons (.con (.str [115, 101, 116])) (.cons (.var 4) (.cons (.con (.str [98])) .nil)))) (.cons (.tup (.cons (.con (.str [115, 101, 116])) (.cons (.var 5) (.cons (.con (.str [97])) .nil)))) .nil)))))) .nil) .nil) (.cons (.ifS (.and (.cmp .eq (.var 3) (.con (.int 8))) (.cmp .gt (.var 2) (.con (.int 0)))) (.cons (.asg (.nm 7) (.tup (.cons (.con (.str [105, 102])) (.cons (.con (.str [97])) (.cons (.tup (.cons (.tup (.cons (.con (.str [97, 110, 115, 119, 101, 114])) (.cons (.con (.int 0)) .nil))) .nil)) (.cons (.tup .nil) .nil)))))) (.cons (.ret (.tup (.cons (.tup (.cons (.con (.str [114, 101, 97, 100])) (.cons (.con (.str [97])) (.cons (.var 4) .nil)))) (.cons (.var 7) (.cons (.tup (.cons (.con (.str [99, 111, 105, 110])) (.cons (.con (.str [98])) .nil))) (.cons (.tup (.cons (.con (.str [115, 101, 116])) (.cons (.var 4) (.cons (.tup (.cons (.con (.str [43])) (.cons (.con (.str [98])) (.cons (.con (.int 1)) .nil)))) .nil)))) (.cons (.tup (.cons (.con (.str [97, 110, 115, 119, 101, 114])) (.cons (.con (.int 1)) .nil))) .nil))))))) .nil)) .nil) (.cons (.ifS (.and (.cmp .eq (.var 3) (.con (.int 9))) (.cmp .gt (.var 2) (.con (.int 0)))) (.cons (.ret (.tup (.cons (.tup (.cons (.con (.str [99, 111, 105, 110])) (.cons (.con (.str [98])) .nil))) (.cons (.tup (.cons (.con (.str [115, 101, 116])) (.cons (.var 4) (.cons (.tup (.cons (.con (.str [43])) (.cons (.con (.str [98])) (.cons (.con (.str [120])) .nil)))) .nil)))) .nil)))) .nil) .nil) (.cons (.ret (.call 26 (.cons (.var 0) (.cons (.var 1) (.cons (.con (.int 2)) (.cons (.con (.int 0)) (.cons (.lst (.cons (.var 2) .nil)) .nil))))) [])) .nil)))))))))))))))
def f__law_body : Fd := ⟨⟨("_law_body", none), "_law_body", "_law_body", defArgs (top 50), defBody (top 50), defScope (top 50), [], []⟩, ["_law_pool_here", "_law_many", "_law_coins", "_law_kind", "_law_c", "_law_d", "_law_e_here", "_law_stop"], ["_law_pool_here", "_law_many", "_law_coins"], ⟨3, 8, b__law_body⟩, []⟩
abbrev n__law_body : Nat := 27
def b__law_deeds : B := (.cons (.asg (.nm 3) (.con (.str [97, 98, 99, 100, 101, 102, 103, 104, 105, 106, 107, 108, 109, 110, 111, 112, 113, 114, 115, 116, 117, 118, 119, 120, 121, 122]))) (.cons (.asg (.nm 4) (.lst .nil)) (.cons (.forS (.nm 5) (.rng1 (.bin .add (.con (.int 1)) (.call 23 (.cons (.var 0) (.cons (.con (.int 4)) .nil)) []))) (.cons (.asg (.nm 6) (.me .join (.con (.str [])) (.cons (.comp (.idx (.var 3) (.call 23 (.cons (.var 0) (.cons (.con (.int 26)) .nil)) [])) (.nm 7) (.rng1 (.call 23 (.cons (.var 0) (.cons (.con (.int 3)) .nil)) [])) .nil [7]) .nil))) (.cons (.asg (.nm 6) (.bin .add (.var 6) (.idx (.var 3) (.bin .add (.bin .mul (.con (.int 4)) (.call 23 (.cons (.var 0) (.cons (.con (.int 6)) .nil)) [])) (.bin .mod (.bin .add (.bin .mul (.con (.int 3)) (.var 5)) (.con (.int 1))) (.con (.int 4))))))) (.cons (.asg (.nm 8) (.bin .add (.con (.int 1)) (.call 23 (.cons (.var 0) (.cons (.con (.int 3)) .nil)) []))) (.cons (.exp (.me .append (.var 4) (.cons (.tup (.cons (.var 6) (.cons (.var 8) (.cons (.call 27 (.cons (.var 0) (.cons (.var 1) (.cons (.var 2) .nil))) []) .nil)))) .nil))) .nil))))) (.cons (.ret (.var 4)) .nil))))
def f__law_deeds : Fd := ⟨⟨("_law_deeds", none), "_law_deeds", "_law_deeds", defArgs (top 51), defBody (top 51), defScope (top 51), [], []⟩, ["_law_pool_here", "_law_many", "_law_coins", "_law_letters", "_law_deeds_here", "_law_k", "_law_name", "_law_turn", "_law_choices"], ["_law_pool_here", "_law_many", "_law_coins"], ⟨3, 9, b__law_deeds⟩, []⟩
abbrev n__law_deeds : Nat := 28
def b__law_calls : B := (.cons (.asg (.nm 1) (.lst .nil)) (.cons (.forS (.nm 2) (.sq (.var 0)) (.cons (.forS (.nm 3) (.rng1 (.idx (.var 2) (.con (.int 1)))) (.cons (.exp (.me .append (.var 1) (.cons (.tup (.cons (.idx (.var 2) (.con (.int 0))) (.cons (.var 3) .nil))) .nil))) .nil)) .nil)) (.cons (.ret (.var 1)) .nil)))
def f__law_calls : Fd := ⟨⟨("_law_calls", none), "_law_calls", "_law_calls", defArgs (top 52), defBody (top 52), defScope (top 52), [], []⟩, ["_law_deeds_here", "_law_calls_here", "_law_deed", "_law_argument"], ["_law_deeds_here"], ⟨1, 4, b__law_calls⟩, []⟩
abbrev n__law_calls : Nat := 29
def b__law_row : B := (.cons (.asg (.nm 3) (.lst .nil)) (.cons (.forS (.nm 4) (.rng1 (.call 23 (.cons (.var 0) (.cons (.bin .add (.var 2) (.con (.int 1))) .nil)) [])) (.cons (.exp (.me .append (.var 3) (.cons (.idx (.var 1) (.call 23 (.cons (.var 0) (.cons (.pr .len (.cons (.var 1) .nil)) .nil)) [])) .nil))) .nil)) (.cons (.ret (.var 3)) .nil)))
def f__law_row : Fd := ⟨⟨("_law_row", none), "_law_row", "_law_row", defArgs (top 53), defBody (top 53), defScope (top 53), [], []⟩, ["_law_pool_here", "_law_calls_here", "_law_longest", "_law_row_here", "_law_turn"], ["_law_pool_here", "_law_calls_here", "_law_longest"], ⟨3, 5, b__law_row⟩, []⟩
abbrev n__law_row : Nat := 30
def b__law_value : B := (.cons (.ifS (.tv (.isi (.var 0) [.tuple])) (.cons (.asg (.nm 2) (.call 31 (.cons (.idx (.var 0) (.con (.int 1))) (.cons (.var 1) .nil)) [])) (.cons (.asg (.nm 3) (.call 31 (.cons (.idx (.var 0) (.con (.int 2))) (.cons (.var 1) .nil)) [])) (.cons (.ifS (.cmp .eq (.idx (.var 0) (.con (.int 0))) (.con (.str [61]))) (.cons (.ret (.pr .int (.cons (.cmp .eq (.var 2) (.var 3)) .nil))) .nil) .nil) (.cons (.ifS (.cmp .eq (.idx (.var 0) (.con (.int 0))) (.con (.str [60]))) (.cons (.ret (.pr .int (.cons (.cmp .lt (.var 2) (.var 3)) .nil))) .nil) .nil) (.cons (.ifS (.cmp .eq (.idx (.var 0) (.con (.int 0))) (.con (.str [42]))) (.cons (.ret (.bin .mod (.pr .int (.cons (.bin .mul (.var 2) (.var 3)) .nil)) (.con (.int 10)))) .nil) .nil) (.cons (.ret (.bin .mod (.pr .int (.cons (.bin .add (.var 2) (.bin .mul (.var 3) (.bin .sub (.con (.int 1)) (.bin .mul (.con (.int 2)) (.pr .int (.cons (.cmp .eq (.idx (.var 0) (.con (.int 0))) (.con (.str [45]))) .nil)))))) .nil)) (.con (.int 10)))) .nil)))))) .nil) (.cons (.ifS (.tv (.isi (.var 0) [.str])) (.cons (.ret (.idx (.var 1) (.var 0))) .nil) .nil) (.cons (.ret (.var 0)) .nil)))
def f__law_value : Fd := ⟨⟨("_law_value", none), "_law_value", "_law_value", defArgs (top 54), defBody (top 54), defScope (top 54), [], []⟩, ["_law_e_here", "_law_held", "_law_one", "_law_two"], ["_law_e_here", "_law_held"], ⟨2, 4, b__law_value⟩, []⟩
abbrev n__law_value : Nat := 31
def b__law_step : B := (.cons (.ifS (.cmp .eq (.idx (.var 0) (.con (.int 0))) (.con (.str [114, 101, 97, 100]))) (.cons (.seti (.var 3) (.idx (.var 0) (.con (.int 1))) (.idx (.var 2) (.idx (.var 0) (.con (.int 2))))) (.cons (.exp (.me .append (.var 4) (.cons (.tup (.cons (.con (.str [114, 101, 97, 100])) (.cons (.idx (.var 0) (.con (.int 2))) (.cons (.idx (.var 2) (.idx (.var 0) (.con (.int 2)))) (.cons (.pr .tuple (.cons (.var 2) .nil)) .nil))))) .nil))) .nil)) (.cons (.ifS (.cmp .eq (.idx (.var 0) (.con (.int 0))) (.con (.str [115, 101, 116]))) (.cons (.seti (.var 2) (.idx (.var 0) (.con (.int 1))) (.bin .mod (.pr .int (.cons (.call 31 (.cons (.idx (.var 0) (.con (.int 2))) (.cons (.var 3) .nil)) []) .nil)) (.idx (.var 1) (.idx (.var 0) (.con (.int 1)))))) (.cons (.exp (.me .append (.var 4) (.cons (.tup (.cons (.con (.str [115, 101, 116])) (.cons (.idx (.var 0) (.con (.int 1))) (.cons (.idx (.var 2) (.idx (.var 0) (.con (.int 1)))) (.cons (.pr .tuple (.cons (.var 2) .nil)) .nil))))) .nil))) .nil)) (.cons (.asg (.nm 5) (.call 31 (.cons (.idx (.var 0) (.con (.int 3))) (.cons (.var 3) .nil)) [])) (.cons (.asg (.nm 6) (.call 31 (.cons (.idx (.var 0) (.con (.int 4))) (.cons (.var 3) .nil)) [])) (.cons (.asg (.nm 7) (.pr .int (.cons (.cmp .eq (.idx (.var 2) (.idx (.var 0) (.con (.int 2)))) (.var 5)) .nil))) (.cons (.ifS (.cmp .eq (.var 7) (.con (.int 1))) (.cons (.seti (.var 2) (.idx (.var 0) (.con (.int 2))) (.bin .mod (.pr .int (.cons (.var 6) .nil)) (.idx (.var 1) (.idx (.var 0) (.con (.int 2)))))) .nil) .nil) (.cons (.seti (.var 3) (.idx (.var 0) (.con (.int 1))) (.var 7)) (.cons (.exp (.me .append (.var 4) (.cons (.tup (.cons (.con (.str [115, 119, 97, 112])) (.cons (.idx (.var 0) (.con (.int 2))) (.cons (.var 7) (.cons (.pr .tuple (.cons (.var 2) .nil)) .nil))))) .nil))) .nil))))))) .nil)) .nil)
def f__law_step : Fd := ⟨⟨("_law_step", none), "_law_step", "_law_step", defArgs (top 55), defBody (top 55), defScope (top 55), [], []⟩, ["_law_row_here", "_law_sizes", "_law_cells_here", "_law_held", "_law_trace", "_law_one", "_law_two", "_law_hit"], ["_law_row_here", "_law_sizes", "_law_cells_here", "_law_held", "_law_trace"], ⟨5, 8, b__law_step⟩, []⟩
abbrev n__law_step : Nat := 32
def b__law_do : B := (.cons (.forS (.nm 6) (.sq (.var 0)) (.cons (.asg (.nm 7) (.con .non)) (.cons (.ifS (.cmp .eq (.idx (.var 6) (.con (.int 0))) (.con (.str [97, 110, 115, 119, 101, 114]))) (.cons (.ret (.call 31 (.cons (.idx (.var 6) (.con (.int 1))) (.cons (.var 3) .nil)) [])) .nil) .nil) (.cons (.ifS (.cmp .eq (.idx (.var 6) (.con (.int 0))) (.con (.str [107, 101, 101, 112]))) (.cons (.seti (.var 3) (.idx (.var 6) (.con (.int 1))) (.call 31 (.cons (.idx (.var 6) (.con (.int 2))) (.cons (.var 3) .nil)) [])) .nil) (.cons (.ifS (.cmp .eq (.idx (.var 6) (.con (.int 0))) (.con (.str [99, 111, 105, 110]))) (.cons (.ifS (.cmp .eq (.pr .len (.cons (.var 4) .nil)) (.con (.int 0))) (.cons (.ret (.neg (.con (.int 1)))) .nil) .nil) (.cons (.seti (.var 3) (.idx (.var 6) (.con (.int 1))) (.me .pop (.var 4) (.cons (.con (.int 0)) .nil))) .nil)) (.cons (.ifS (.cmp .eq (.idx (.var 6) (.con (.int 0))) (.con (.str [105, 102]))) (.cons (.asg (.nm 7) (.call 33 (.cons (.idx (.var 6) (.bin .add (.con (.int 2)) (.pr .int (.cons (.cmp .eq (.call 31 (.cons (.idx (.var 6) (.con (.int 1))) (.cons (.var 3) .nil)) []) (.con (.int 0))) .nil)))) (.cons (.var 1) (.cons (.var 2) (.cons (.var 3) (.cons (.var 4) (.cons (.var 5) .nil)))))) [])) .nil) (.cons (.ifS (.cmp .eq (.idx (.var 6) (.con (.int 0))) (.con (.str [116, 105, 109, 101, 115]))) (.cons (.forS (.nm 8) (.rng1 (.call 31 (.cons (.idx (.var 6) (.con (.int 1))) (.cons (.var 3) .nil)) [])) (.cons (.ifS (.isN (.var 7)) (.cons (.asg (.nm 7) (.call 33 (.cons (.idx (.var 6) (.con (.int 2))) (.cons (.var 1) (.cons (.var 2) (.cons (.var 3) (.cons (.var 4) (.cons (.var 5) .nil)))))) [])) .nil) .nil) .nil)) .nil) (.cons (.exp (.call 32 (.cons (.var 6) (.cons (.var 1) (.cons (.var 2) (.cons (.var 3) (.cons (.var 5) .nil))))) [])) .nil)) .nil)) .nil)) .nil)) (.cons (.ifS (.notN (.var 7)) (.cons (.ret (.var 7)) .nil) .nil) .nil))))) (.cons (.ret (.con .non)) .nil))
def f__law_do : Fd := ⟨⟨("_law_do", none), "_law_do", "_law_do", defArgs (top 56), defBody (top 56), defScope (top 56), [], []⟩, ["_law_rows_here", "_law_sizes", "_law_cells_here", "_law_held", "_law_falls", "_law_trace", "_law_row_here", "_law_answer", "_law_turn"], ["_law_rows_here", "_law_sizes", "_law_cells_here", "_law_held", "_law_falls", "_law_trace"], ⟨6, 9, b__law_do⟩, []⟩
abbrev n__law_do : Nat := 33
def b__law_call : B := (.cons (.asg (.nm 5) (.comp (.idx (.var 6) (.con (.int 0))) (.nm 6) (.sq (.var 0)) .nil [6])) (.cons (.asg (.nm 7) (.idx (.comp (.idx (.var 8) (.con (.int 2))) (.nm 8) (.sq (.var 1)) (.cons (.cmp .eq (.idx (.var 8) (.con (.int 0))) (.idx (.var 3) (.con (.int 0)))) .nil) [8]) (.con (.int 0)))) (.cons (.asg (.nm 9) (.dic (.cons (.con (.str [97])) (.cons (.con (.int 0)) (.cons (.con (.str [98])) (.cons (.con (.int 0)) (.cons (.con (.str [99])) (.cons (.con (.int 0)) (.cons (.con (.str [100])) (.cons (.con (.int 0)) (.cons (.con (.str [120])) (.cons (.idx (.var 3) (.con (.int 1))) .nil)))))))))))) (.cons (.asg (.nm 10) (.pr .list (.cons (.var 2) .nil))) (.cons (.asg (.nm 11) (.pr .list (.cons (.var 4) .nil))) (.cons (.asg (.nm 12) (.lst .nil)) (.cons (.asg (.nm 13) (.call 33 (.cons (.var 7) (.cons (.var 5) (.cons (.var 10) (.cons (.var 9) (.cons (.var 11) (.cons (.var 12) .nil)))))) [])) (.cons (.ifS (.isN (.var 13)) (.cons (.asg (.nm 13) (.con (.int 0))) .nil) .nil) (.cons (.ret (.tup (.cons (.var 13) (.cons (.pr .tuple (.cons (.var 10) .nil)) (.cons (.var 12) (.cons (.bin .sub (.pr .len (.cons (.var 4) .nil)) (.pr .len (.cons (.var 11) .nil))) .nil)))))) .nil)))))))))
def f__law_call : Fd := ⟨⟨("_law_call", none), "_law_call", "_law_call", defArgs (top 57), defBody (top 57), defScope (top 57), [], []⟩, ["_law_cells_here", "_law_deeds_here", "_law_state", "_law_call_here", "_law_falls", "_law_sizes", "_law_cell", "_law_rows_here", "_law_deed", "_law_held", "_law_now", "_law_left", "_law_trace", "_law_answer"], ["_law_cells_here", "_law_deeds_here", "_law_state", "_law_call_here", "_law_falls"], ⟨5, 14, b__law_call⟩, []⟩
abbrev n__law_call : Nat := 34
def b__law_same : B := (.cons (.ifS (.tv (.isi (.var 0) [.tuple, .list])) (.cons (.ifS (.or (.not (.tv (.isi (.var 1) [.tuple, .list]))) (.cmp .ne (.isi (.var 0) [.list]) (.isi (.var 1) [.list]))) (.cons (.ret (.con (.bl false))) .nil) .nil) (.cons (.ifS (.cmp .ne (.pr .len (.cons (.var 0) .nil)) (.pr .len (.cons (.var 1) .nil))) (.cons (.ret (.con (.bl false))) .nil) .nil) (.cons (.forS (.nm 2) (.rng1 (.pr .len (.cons (.var 0) .nil))) (.cons (.ifS (.not (.tv (.call 35 (.cons (.idx (.var 0) (.var 2)) (.cons (.idx (.var 1) (.var 2)) .nil)) []))) (.cons (.ret (.con (.bl false))) .nil) .nil) .nil)) (.cons (.ret (.con (.bl true))) .nil)))) .nil) (.cons (.ifS (.or (.tv (.isi (.var 0) [.bool])) (.tv (.isi (.var 1) [.bool]))) (.cons (.ret (.and (.isi (.var 0) [.bool]) (.and (.isi (.var 1) [.bool]) (.cmp .eq (.var 0) (.var 1))))) .nil) .nil) (.cons (.ifS (.tv (.isi (.var 0) [.int])) (.cons (.ret (.and (.isi (.var 1) [.int]) (.cmp .eq (.var 0) (.var 1)))) .nil) .nil) (.cons (.ifS (.tv (.isi (.var 0) [.str])) (.cons (.ret (.and (.isi (.var 1) [.str]) (.cmp .eq (.var 0) (.var 1)))) .nil) .nil) (.cons (.ret (.and (.isN (.var 0)) (.isN (.var 1)))) .nil)))))
def f__law_same : Fd := ⟨⟨("_law_same", none), "_law_same", "_law_same", defArgs (top 58), defBody (top 58), defScope (top 58), [], []⟩, ["_law_one", "_law_two", "_law_k"], ["_law_one", "_law_two"], ⟨2, 3, b__law_same⟩, []⟩
abbrev n__law_same : Nat := 35
def b__law_long_row : B := (.cons (.asg (.nm 2) (.lst .nil)) (.cons (.forS (.nm 3) (.rng2 (.con (.int 1)) (.pr .min2 (.cons (.pr .len (.cons (.var 0) .nil)) (.cons (.con (.int 61)) .nil)))) (.cons (.exp (.me .append (.var 2) (.cons (.idx (.var 1) (.call 23 (.cons (.call 22 (.cons (.var 0) (.cons (.var 3) .nil)) []) (.cons (.pr .len (.cons (.var 1) .nil)) .nil)) [])) .nil))) .nil)) (.cons (.asg (.nm 4) (.call 22 (.cons (.var 0) (.cons (.con (.int 1)) .nil)) [])) (.cons (.asg (.nm 5) (.idx (.lst (.cons (.con (.int 5)) (.cons (.con (.int 20)) (.cons (.con (.int 55)) .nil)))) (.call 23 (.cons (.var 4) (.cons (.con (.int 3)) .nil)) []))) (.cons (.forS (.nm 6) (.rng1 (.call 23 (.cons (.var 4) (.cons (.con (.int 7)) .nil)) [])) (.cons (.asg (.nm 2) (.bin .add (.var 2) (.call 30 (.cons (.var 4) (.cons (.var 1) (.cons (.var 5) .nil))) []))) .nil)) (.cons (.ret (.var 2)) .nil))))))
def f__law_long_row : Fd := ⟨⟨("_law_long_row", none), "_law_long_row", "_law_long_row", defArgs (top 59), defBody (top 59), defScope (top 59), [], []⟩, ["_law_script", "_law_calls_here", "_law_row_here", "_law_k", "_law_pool_here", "_law_longest", "_law_turn"], ["_law_script", "_law_calls_here"], ⟨2, 7, b__law_long_row⟩, []⟩
abbrev n__law_long_row : Nat := 36
def b__law_past : B := (.cons (.asg (.nm 4) (.lst .nil)) (.cons (.asg (.nm 5) (.var 2)) (.cons (.forS (.nm 6) (.sq (.var 3)) (.cons (.asg (.nm 7) (.call 34 (.cons (.var 0) (.cons (.var 1) (.cons (.var 5) (.cons (.var 6) (.cons (.lst .nil) .nil))))) [])) (.cons (.exp (.me .append (.var 4) (.cons (.idx (.var 7) (.con (.int 0))) .nil))) (.cons (.asg (.nm 5) (.idx (.var 7) (.con (.int 1)))) .nil)))) (.cons (.ret (.tup (.cons (.var 4) (.cons (.var 5) .nil)))) .nil))))
def f__law_past : Fd := ⟨⟨("_law_past", none), "_law_past", "_law_past", defArgs (top 60), defBody (top 60), defScope (top 60), [], []⟩, ["_law_cells_here", "_law_deeds_here", "_law_state", "_law_row_here", "_law_answers", "_law_now", "_law_call_here", "_law_came"], ["_law_cells_here", "_law_deeds_here", "_law_state", "_law_row_here"], ⟨4, 8, b__law_past⟩, []⟩
abbrev n__law_past : Nat := 37
def b_law : B := (.cons (.asg (.nm 1) (.call 22 (.cons (.var 0) (.cons (.con (.int 0)) .nil)) [])) (.cons (.asg (.nm 2) (.call 23 (.cons (.var 1) (.cons (.con (.int 400)) .nil)) [])) (.cons (.asg (.nm 3) (.call 24 (.cons (.var 1) .nil) [])) (.cons (.asg (.nm 4) (.call 28 (.cons (.var 1) (.cons (.pr .len (.cons (.var 3) .nil)) (.cons (.con (.int 0)) .nil))) [])) (.cons (.asg (.nm 5) (.make 8 49 (.cons (.pr .list (.cons (.var 3) .nil)) (.cons (.pr .list (.cons (.var 4) .nil)) .nil)))) (.cons (.asg (.nm 6) (.pr .tuple (.cons (.comp (.idx (.var 7) (.con (.int 1))) (.nm 7) (.sq (.var 3)) .nil [7]) .nil))) (.cons (.asg (.nm 8) (.call 36 (.cons (.var 0) (.cons (.call 29 (.cons (.var 4) .nil) []) .nil)) [])) (.cons (.asg (.nm 2) (.bin .mod (.pr .int (.cons (.var 2) .nil)) (.bin .add (.pr .len (.cons (.var 8) .nil)) (.con (.int 1))))) (.cons (.asg (.nm 9) (.call 37 (.cons (.var 3) (.cons (.var 4) (.cons (.var 6) (.cons (.var 8) .nil)))) [])) (.cons (.asg (.nm 10) (.call 37 (.cons (.var 3) (.cons (.var 4) (.cons (.var 6) (.cons (.sli (.var 8) .abs0 (.var 2)) .nil)))) [])) (.cons (.asg (.nm 11) (.pr .list (.cons (.var 8) .nil))) (.cons (.asg (.nm 12) (.call 20 (.cons (.var 5) (.cons (.var 11) .nil)) [])) (.cons (.ifS (.or (.not (.tv (.call 35 (.cons (.idx (.var 9) (.con (.int 0))) (.cons (.var 12) .nil)) []))) (.or (.not (.tv (.call 35 (.cons (.idx (.var 9) (.con (.int 1))) (.cons (.call 19 (.cons (.var 5) (.cons (.var 11) .nil)) []) .nil)) []))) (.cmp .ne (.var 8) (.var 11)))) (.cons (.ret (.con (.bl false))) .nil) .nil) (.cons (.exp (.me .append (.var 12) (.cons (.con (.int 3)) .nil))) (.cons (.ifS (.or (.not (.tv (.call 35 (.cons (.idx (.var 10) (.con (.int 0))) (.cons (.call 20 (.cons (.var 5) (.cons (.sli (.var 8) .abs0 (.var 2)) .nil)) []) .nil)) []))) (.not (.tv (.call 35 (.cons (.idx (.var 10) (.con (.int 1))) (.cons (.call 19 (.cons (.var 5) (.cons (.sli (.var 8) .abs0 (.var 2)) .nil)) []) .nil)) [])))) (.cons (.ret (.con (.bl false))) .nil) .nil) (.cons (.asg (.nm 13) (.call 21 (.cons (.var 5) (.cons (.idx (.var 10) (.con (.int 1))) .nil)) [])) (.cons (.ifS (.not (.tv (.call 35 (.cons (.sli (.idx (.var 9) (.con (.int 0))) (.var 2) .abs0) (.cons (.call 20 (.cons (.var 13) (.cons (.sli (.var 8) (.var 2) .abs0) .nil)) []) .nil)) []))) (.cons (.ret (.con (.bl false))) .nil) .nil) (.cons (.ifS (.or (.not (.tv (.call 35 (.cons (.idx (.var 9) (.con (.int 1))) (.cons (.call 19 (.cons (.var 13) (.cons (.sli (.var 8) (.var 2) .abs0) .nil)) []) .nil)) []))) (.not (.tv (.call 35 (.cons (.var 6) (.cons (.call 19 (.cons (.var 5) (.cons (.lst .nil) .nil)) []) .nil)) [])))) (.cons (.ret (.con (.bl false))) .nil) .nil) (.cons (.ret (.and (.call 35 (.cons (.idx (.var 9) (.con (.int 0))) (.cons (.call 20 (.cons (.var 5) (.cons (.var 11) .nil)) []) .nil)) []) (.call 35 (.cons (.lst .nil) (.cons (.call 20 (.cons (.var 5) (.cons (.lst .nil) .nil)) []) .nil)) []))) .nil)))))))))))))))))))
def f_law : Fd := ⟨⟨("law", none), "law", "law", defArgs (top 61), defBody (top 61), defScope (top 61), [], []⟩, ["_law_script", "_law_pool_here", "_law_place", "_law_cells_here", "_law_deeds_here", "_law_vault", "_law_first", "_law_cell", "_law_row_here", "_law_whole", "_law_half", "_law_row_in", "_law_answers", "_law_other"], ["_law_script"], ⟨1, 14, b_law⟩, []⟩
abbrev n_law : Nat := 38
def b_Body___init__ : B := (.cons (.setf (.var 0) 11 (.var 1)) (.cons (.setf (.var 0) 10 (.con (.int 0))) (.cons (.setf (.var 0) 9 (.con (.int 0))) .nil)))
def f_Body___init__ : Fd := ⟨⟨("Body", some "__init__"), "__init__", "Body.__init__", defArgs (inn 21 0), defBody (inn 21 0), defScope (inn 21 0), [], []⟩, ["self", "many_cells"], ["self", "many_cells"], ⟨2, 2, b_Body___init__⟩, []⟩
abbrev n_Body___init__ : Nat := 39
def b_Body_good_rows : B := (.cons (.ifS (.not (.tv (.isi (.var 1) [.tuple]))) (.cons (.ret (.con (.bl false))) .nil) .nil) (.cons (.ifS (.and (.cmp .gt (.pr .len (.cons (.var 1) .nil)) (.con (.int 0))) (.cmp .gt (.var 2) (.glo 6))) (.cons (.ret (.con (.bl false))) .nil) .nil) (.cons (.forS (.nm 4) (.sq (.var 1)) (.cons (.augf (.var 0) 10 .add (.con (.int 1))) (.cons (.ifS (.or (.cmp .gt (.fld 10 (.var 0)) (.glo 4)) (.not (.tv (.meth [(6, 41)] (.var 0) (.cons (.var 4) (.cons (.var 2) (.cons (.var 3) .nil))))))) (.cons (.ret (.con (.bl false))) .nil) .nil) .nil))) (.cons (.ret (.con (.bl true))) .nil))))
def f_Body_good_rows : Fd := ⟨⟨("Body", some "good_rows"), "good_rows", "Body.good_rows", defArgs (inn 21 1), defBody (inn 21 1), defScope (inn 21 1), [], []⟩, ["self", "thing", "depth", "loops", "row"], ["self", "thing", "depth", "loops"], ⟨4, 5, b_Body_good_rows⟩, []⟩
abbrev n_Body_good_rows : Nat := 40
def b_Body_good_row : B := (.cons (.ifS (.or (.not (.tv (.isi (.var 1) [.tuple]))) (.or (.cmp .eq (.pr .len (.cons (.var 1) .nil)) (.con (.int 0))) (.not (.tv (.isi (.idx (.var 1) (.con (.int 0))) [.str]))))) (.cons (.ret (.con (.bl false))) .nil) .nil) (.cons (.ifS (.or (.cmp .nin (.idx (.var 1) (.con (.int 0))) (.glo 8)) (.cmp .ne (.pr .len (.cons (.var 1) .nil)) (.bin .add (.pr .len (.cons (.idx (.glo 8) (.idx (.var 1) (.con (.int 0)))) .nil)) (.con (.int 1))))) (.cons (.ret (.con (.bl false))) .nil) .nil) (.cons (.ifS (.cmp .eq (.idx (.var 1) (.con (.int 0))) (.con (.str [116, 105, 109, 101, 115]))) (.cons (.augn 3 .add (.con (.int 1))) .nil) .nil) (.cons (.ifS (.cmp .eq (.idx (.var 1) (.con (.int 0))) (.con (.str [99, 111, 105, 110]))) (.cons (.augf (.var 0) 9 .add (.con (.int 1))) (.cons (.ifS (.or (.cmp .gt (.var 3) (.con (.int 0))) (.cmp .gt (.fld 9 (.var 0)) (.glo 5))) (.cons (.ret (.con (.bl false))) .nil) .nil) .nil)) .nil) (.cons (.ifS (.cmp .gt (.var 3) (.con (.int 2))) (.cons (.ret (.con (.bl false))) .nil) .nil) (.cons (.forS (.tp [4, 5]) (.zip (.idx (.glo 8) (.idx (.var 1) (.con (.int 0)))) (.sli (.var 1) (.con (.int 1)) .abs0)) (.cons (.ifS (.not (.tv (.meth [(6, 42)] (.var 0) (.cons (.var 4) (.cons (.var 5) (.cons (.var 2) (.cons (.var 3) .nil))))))) (.cons (.ret (.con (.bl false))) .nil) .nil) .nil)) (.cons (.ret (.con (.bl true))) .nil)))))))
def f_Body_good_row : Fd := ⟨⟨("Body", some "good_row"), "good_row", "Body.good_row", defArgs (inn 21 2), defBody (inn 21 2), defScope (inn 21 2), [], []⟩, ["self", "row", "depth", "loops", "sort", "part"], ["self", "row", "depth", "loops"], ⟨4, 6, b_Body_good_row⟩, []⟩
abbrev n_Body_good_row : Nat := 41
def b_Body_good_part : B := (.cons (.ifS (.cmp .eq (.var 1) (.con (.str [82]))) (.cons (.ret (.and (.isi (.var 2) [.str]) (.cmp .inn (.var 2) (.glo 2)))) .nil) .nil) (.cons (.ifS (.cmp .eq (.var 1) (.con (.str [67]))) (.cons (.ret (.and (.call 1 (.cons (.var 2) .nil) []) (.chain .le .lt (.con (.int 0)) (.var 2) (.fld 11 (.var 0))))) .nil) .nil) (.cons (.ifS (.cmp .eq (.var 1) (.con (.str [69]))) (.cons (.ret (.call 3 (.cons (.var 2) .nil) [(.int 6)])) .nil) .nil) (.cons (.ret (.meth [(6, 40)] (.var 0) (.cons (.var 2) (.cons (.bin .add (.var 3) (.con (.int 1))) (.cons (.var 4) .nil))))) .nil))))
def f_Body_good_part : Fd := ⟨⟨("Body", some "good_part"), "good_part", "Body.good_part", defArgs (inn 21 3), defBody (inn 21 3), defScope (inn 21 3), [], []⟩, ["self", "sort", "part", "depth", "loops"], ["self", "sort", "part", "depth", "loops"], ⟨5, 5, b_Body_good_part⟩, []⟩
abbrev n_Body_good_part : Nat := 42
def b_Walk___init__ : B := (.cons (.setf (.var 0) 0 (.fld 0 (.var 1))) (.cons (.setf (.var 0) 5 (.pr .list (.cons (.var 2) .nil))) (.cons (.setf (.var 0) 14 (.dic (.cons (.con (.str [97])) (.cons (.con (.int 0)) (.cons (.con (.str [98])) (.cons (.con (.int 0)) (.cons (.con (.str [99])) (.cons (.con (.int 0)) (.cons (.con (.str [100])) (.cons (.con (.int 0)) (.cons (.con (.str [120])) (.cons (.idx (.var 3) (.con (.int 1))) .nil)))))))))))) (.cons (.setf (.var 0) 13 (.var 4)) (.cons (.setf (.var 0) 3 (.con (.int 0))) (.cons (.setf (.var 0) 4 (.lst .nil)) (.cons (.setf (.var 0) 6 (.meth [(7, 44)] (.var 0) (.cons (.idx (.fld 12 (.var 1)) (.idx (.var 3) (.con (.int 0)))) .nil))) (.cons (.ifS (.isN (.fld 6 (.var 0))) (.cons (.setf (.var 0) 6 (.con (.int 0))) .nil) .nil) .nil))))))))
def f_Walk___init__ : Fd := ⟨⟨("Walk", some "__init__"), "__init__", "Walk.__init__", defArgs (inn 36 0), defBody (inn 36 0), defScope (inn 36 0), [], []⟩, ["self", "vault", "state", "call", "coins"], ["self", "vault", "state", "call", "coins"], ⟨5, 5, b_Walk___init__⟩, []⟩
abbrev n_Walk___init__ : Nat := 43
def b_Walk_do_rows : B := (.cons (.forS (.nm 2) (.sq (.var 1)) (.cons (.asg (.nm 3) (.meth [(7, 45)] (.var 0) (.cons (.var 2) .nil))) (.cons (.ifS (.notN (.var 3)) (.cons (.ret (.var 3)) .nil) .nil) .nil))) (.cons (.ret (.con .non)) .nil))
def f_Walk_do_rows : Fd := ⟨⟨("Walk", some "do_rows"), "do_rows", "Walk.do_rows", defArgs (inn 36 1), defBody (inn 36 1), defScope (inn 36 1), [], []⟩, ["self", "rows", "row", "result"], ["self", "rows"], ⟨2, 4, b_Walk_do_rows⟩, []⟩
abbrev n_Walk_do_rows : Nat := 44
def b_Walk_do_row : B := (.cons (.ifS (.cmp .eq (.idx (.var 1) (.con (.int 0))) (.con (.str [97, 110, 115, 119, 101, 114]))) (.cons (.ret (.call 16 (.cons (.idx (.var 1) (.con (.int 1))) (.cons (.fld 14 (.var 0)) .nil)) [])) .nil) .nil) (.cons (.ifS (.cmp .eq (.idx (.var 1) (.con (.int 0))) (.con (.str [105, 102]))) (.cons (.ifS (.cmp .ne (.call 16 (.cons (.idx (.var 1) (.con (.int 1))) (.cons (.fld 14 (.var 0)) .nil)) []) (.con (.int 0))) (.cons (.ret (.meth [(7, 44)] (.var 0) (.cons (.idx (.var 1) (.con (.int 2))) .nil))) .nil) .nil) (.cons (.ret (.meth [(7, 44)] (.var 0) (.cons (.idx (.var 1) (.con (.int 3))) .nil))) .nil)) .nil) (.cons (.ifS (.cmp .eq (.idx (.var 1) (.con (.int 0))) (.con (.str [116, 105, 109, 101, 115]))) (.cons (.ret (.meth [(7, 46)] (.var 0) (.cons (.call 16 (.cons (.idx (.var 1) (.con (.int 1))) (.cons (.fld 14 (.var 0)) .nil)) []) (.cons (.idx (.var 1) (.con (.int 2))) .nil)))) .nil) .nil) (.cons (.ifS (.cmp .eq (.idx (.var 1) (.con (.int 0))) (.con (.str [99, 111, 105, 110]))) (.cons (.ret (.meth [(7, 47)] (.var 0) (.cons (.idx (.var 1) (.con (.int 1))) .nil))) .nil) .nil) (.cons (.ifS (.cmp .eq (.idx (.var 1) (.con (.int 0))) (.con (.str [107, 101, 101, 112]))) (.cons (.seti (.fld 14 (.var 0)) (.idx (.var 1) (.con (.int 1))) (.call 16 (.cons (.idx (.var 1) (.con (.int 2))) (.cons (.fld 14 (.var 0)) .nil)) [])) .nil) (.cons (.exp (.meth [(7, 48)] (.var 0) (.cons (.var 1) .nil))) .nil)) (.cons (.ret (.con .non)) .nil))))))
def f_Walk_do_row : Fd := ⟨⟨("Walk", some "do_row"), "do_row", "Walk.do_row", defArgs (inn 36 2), defBody (inn 36 2), defScope (inn 36 2), [], []⟩, ["self", "row"], ["self", "row"], ⟨2, 2, b_Walk_do_row⟩, []⟩
abbrev n_Walk_do_row : Nat := 45
def b_Walk_do_times : B := (.cons (.forS (.nm 3) (.rng1 (.var 1)) (.cons (.asg (.nm 4) (.meth [(7, 44)] (.var 0) (.cons (.var 2) .nil))) (.cons (.ifS (.notN (.var 4)) (.cons (.ret (.var 4)) .nil) .nil) .nil))) (.cons (.ret (.con .non)) .nil))
def f_Walk_do_times : Fd := ⟨⟨("Walk", some "do_times"), "do_times", "Walk.do_times", defArgs (inn 36 3), defBody (inn 36 3), defScope (inn 36 3), [], []⟩, ["self", "many", "rows", "turn", "result"], ["self", "many", "rows"], ⟨3, 5, b_Walk_do_times⟩, []⟩
abbrev n_Walk_do_times : Nat := 46
def b_Walk_do_coin : B := (.cons (.ifS (.cmp .eq (.fld 3 (.var 0)) (.pr .len (.cons (.fld 13 (.var 0)) .nil))) (.cons (.ret (.neg (.con (.int 1)))) .nil) .nil) (.cons (.seti (.fld 14 (.var 0)) (.var 1) (.idx (.fld 13 (.var 0)) (.fld 3 (.var 0)))) (.cons (.augf (.var 0) 3 .add (.con (.int 1))) (.cons (.ret (.con .non)) .nil))))
def f_Walk_do_coin : Fd := ⟨⟨("Walk", some "do_coin"), "do_coin", "Walk.do_coin", defArgs (inn 36 4), defBody (inn 36 4), defScope (inn 36 4), [], []⟩, ["self", "keeper"], ["self", "keeper"], ⟨2, 2, b_Walk_do_coin⟩, []⟩
abbrev n_Walk_do_coin : Nat := 47
def b_Walk_do_step : B := (.cons (.ifS (.cmp .eq (.idx (.var 1) (.con (.int 0))) (.con (.str [115, 101, 116]))) (.cons (.asg (.nm 2) (.idx (.var 1) (.con (.int 1)))) (.cons (.asg (.nm 3) (.bin .mod (.call 16 (.cons (.idx (.var 1) (.con (.int 2))) (.cons (.fld 14 (.var 0)) .nil)) []) (.idx (.fld 0 (.var 0)) (.var 2)))) (.cons (.seti (.fld 5 (.var 0)) (.var 2) (.var 3)) .nil))) (.cons (.ifS (.cmp .eq (.idx (.var 1) (.con (.int 0))) (.con (.str [114, 101, 97, 100]))) (.cons (.asg (.nm 2) (.idx (.var 1) (.con (.int 2)))) (.cons (.asg (.nm 3) (.idx (.fld 5 (.var 0)) (.var 2))) (.cons (.seti (.fld 14 (.var 0)) (.idx (.var 1) (.con (.int 1))) (.var 3)) .nil))) (.cons (.asg (.nm 2) (.idx (.var 1) (.con (.int 2)))) (.cons (.asg (.nm 4) (.call 16 (.cons (.idx (.var 1) (.con (.int 3))) (.cons (.fld 14 (.var 0)) .nil)) [])) (.cons (.asg (.nm 5) (.call 16 (.cons (.idx (.var 1) (.con (.int 4))) (.cons (.fld 14 (.var 0)) .nil)) [])) (.cons (.asg (.nm 3) (.pr .int (.cons (.cmp .eq (.idx (.fld 5 (.var 0)) (.var 2)) (.var 4)) .nil))) (.cons (.ifS (.cmp .eq (.var 3) (.con (.int 1))) (.cons (.seti (.fld 5 (.var 0)) (.var 2) (.bin .mod (.var 5) (.idx (.fld 0 (.var 0)) (.var 2)))) .nil) .nil) (.cons (.seti (.fld 14 (.var 0)) (.idx (.var 1) (.con (.int 1))) (.var 3)) .nil))))))) .nil)) (.cons (.exp (.me .append (.fld 4 (.var 0)) (.cons (.tup (.cons (.idx (.var 1) (.con (.int 0))) (.cons (.var 2) (.cons (.var 3) (.cons (.pr .tuple (.cons (.fld 5 (.var 0)) .nil)) .nil))))) .nil))) .nil))
def f_Walk_do_step : Fd := ⟨⟨("Walk", some "do_step"), "do_step", "Walk.do_step", defArgs (inn 36 5), defBody (inn 36 5), defScope (inn 36 5), [], []⟩, ["self", "row", "cell", "came", "old", "new"], ["self", "row"], ⟨2, 6, b_Walk_do_step⟩, []⟩
abbrev n_Walk_do_step : Nat := 48
def b_Vault___init__ : B := (.cons (.ifS (.not (.tv (.call 4 (.cons (.var 1) .nil) []))) (.cons (.rais 4 (.cons (.con (.str [99, 101, 108, 108, 115])) .nil)) .nil) .nil) (.cons (.ifS (.not (.tv (.call 6 (.cons (.var 2) (.cons (.pr .len (.cons (.var 1) .nil)) .nil)) []))) (.cons (.rais 4 (.cons (.con (.str [100, 101, 101, 100, 115])) .nil)) .nil) .nil) (.cons (.setf (.var 0) 15 (.pr .tuple (.cons (.var 1) .nil))) (.cons (.setf (.var 0) 8 (.pr .tuple (.cons (.var 2) .nil))) (.cons (.setf (.var 0) 0 (.pr .tuple (.cons (.comp (.idx (.var 3) (.con (.int 0))) (.nm 3) (.sq (.var 1)) .nil [3]) .nil))) (.cons (.setf (.var 0) 7 (.pr .tuple (.cons (.comp (.idx (.var 3) (.con (.int 1))) (.nm 3) (.sq (.var 1)) .nil [3]) .nil))) (.cons (.setf (.var 0) 1 (.dcomp (.idx (.var 4) (.con (.int 0))) (.idx (.var 4) (.con (.int 1))) (.nm 4) (.sq (.var 2)) .nil [4])) (.cons (.setf (.var 0) 12 (.dcomp (.idx (.var 4) (.con (.int 0))) (.idx (.var 4) (.con (.int 2))) (.nm 4) (.sq (.var 2)) .nil [4])) (.cons (.setf (.var 0) 2 (.pr .any (.cons (.comp (.call 7 (.cons (.idx (.var 4) (.con (.int 2))) .nil) []) (.nm 4) (.sq (.var 2)) .nil [4]) .nil))) .nil)))))))))
def f_Vault___init__ : Fd := ⟨⟨("Vault", some "__init__"), "__init__", "Vault.__init__", defArgs (inn 42 0), defBody (inn 42 0), defScope (inn 42 0), [], []⟩, ["self", "cells", "deeds", "cell", "deed"], ["self", "cells", "deeds"], ⟨3, 5, b_Vault___init__⟩, []⟩
abbrev n_Vault___init__ : Nat := 49
def b_Vault___eq__ : B := (.cons (.ret (.and (.isi (.var 1) [(.own 8)]) (.and (.cmp .eq (.fld 15 (.var 0)) (.fld 15 (.var 1))) (.cmp .eq (.fld 8 (.var 0)) (.fld 8 (.var 1)))))) .nil)
def f_Vault___eq__ : Fd := ⟨⟨("Vault", some "__eq__"), "__eq__", "Vault.__eq__", defArgs (inn 42 1), defBody (inn 42 1), defScope (inn 42 1), [], []⟩, ["self", "other"], ["self", "other"], ⟨2, 2, b_Vault___eq__⟩, []⟩
abbrev n_Vault___eq__ : Nat := 50
def b_Vault_sizes : B := (.cons (.ret (.fld 0 (.var 0))) .nil)
def f_Vault_sizes : Fd := ⟨⟨("Vault", some "sizes"), "sizes", "Vault.sizes", defArgs (inn 42 2), defBody (inn 42 2), defScope (inn 42 2), [], []⟩, ["self"], ["self"], ⟨1, 1, b_Vault_sizes⟩, []⟩
abbrev n_Vault_sizes : Nat := 51
def b_Vault_first : B := (.cons (.ret (.fld 7 (.var 0))) .nil)
def f_Vault_first : Fd := ⟨⟨("Vault", some "first"), "first", "Vault.first", defArgs (inn 42 3), defBody (inn 42 3), defScope (inn 42 3), [], []⟩, ["self"], ["self"], ⟨1, 1, b_Vault_first⟩, []⟩
abbrev n_Vault_first : Nat := 52
def b_Vault_names : B := (.cons (.ret (.comp (.idx (.var 1) (.con (.int 0))) (.nm 1) (.sq (.fld 8 (.var 0))) .nil [1])) .nil)
def f_Vault_names : Fd := ⟨⟨("Vault", some "names"), "names", "Vault.names", defArgs (inn 42 4), defBody (inn 42 4), defScope (inn 42 4), [], []⟩, ["self", "deed"], ["self"], ⟨1, 2, b_Vault_names⟩, []⟩
abbrev n_Vault_names : Nat := 53
def b_Vault_check_name : B := (.cons (.ifS (.or (.not (.tv (.isi (.var 1) [.str]))) (.cmp .nin (.var 1) (.fld 1 (.var 0)))) (.cons (.rais 1 .nil) .nil) .nil) .nil)
def f_Vault_check_name : Fd := ⟨⟨("Vault", some "check_name"), "check_name", "Vault.check_name", defArgs (inn 42 5), defBody (inn 42 5), defScope (inn 42 5), [], []⟩, ["self", "name"], ["self", "name"], ⟨2, 2, b_Vault_check_name⟩, []⟩
abbrev n_Vault_check_name : Nat := 54
def b_Vault_choices : B := (.cons (.exp (.meth [(8, 54)] (.var 0) (.cons (.var 1) .nil))) (.cons (.ret (.idx (.fld 1 (.var 0)) (.var 1))) .nil))
def f_Vault_choices : Fd := ⟨⟨("Vault", some "choices"), "choices", "Vault.choices", defArgs (inn 42 6), defBody (inn 42 6), defScope (inn 42 6), [], []⟩, ["self", "name"], ["self", "name"], ⟨2, 2, b_Vault_choices⟩, []⟩
abbrev n_Vault_choices : Nat := 55
def b_Vault_rows : B := (.cons (.exp (.meth [(8, 54)] (.var 0) (.cons (.var 1) .nil))) (.cons (.ret (.idx (.fld 12 (.var 0)) (.var 1))) .nil))
def f_Vault_rows : Fd := ⟨⟨("Vault", some "rows"), "rows", "Vault.rows", defArgs (inn 42 7), defBody (inn 42 7), defScope (inn 42 7), [], []⟩, ["self", "name"], ["self", "name"], ⟨2, 2, b_Vault_rows⟩, []⟩
abbrev n_Vault_rows : Nat := 56
def b_Vault_calls : B := (.cons (.ret (.call 8 (.cons (.fld 8 (.var 0)) .nil) [])) .nil)
def f_Vault_calls : Fd := ⟨⟨("Vault", some "calls"), "calls", "Vault.calls", defArgs (inn 42 8), defBody (inn 42 8), defScope (inn 42 8), [], []⟩, ["self"], ["self"], ⟨1, 1, b_Vault_calls⟩, []⟩
abbrev n_Vault_calls : Nat := 57
def b_Vault_has_coins : B := (.cons (.exp (.call 0 (.cons (.con (.int 0)) .nil) [])) .nil)
def f_Vault_has_coins : Fd := ⟨⟨("Vault", some "has_coins"), "has_coins", "Vault.has_coins", defArgs (inn 42 9), defBody (inn 42 9), defScope (inn 42 9), [], []⟩, ["self"], ["self"], ⟨1, 1, b_Vault_has_coins⟩, []⟩
abbrev n_Vault_has_coins : Nat := 58
def b_Vault_shape : B := (.cons (.exp (.call 0 (.cons (.con (.int 1)) .nil) [])) .nil)
def f_Vault_shape : Fd := ⟨⟨("Vault", some "shape"), "shape", "Vault.shape", defArgs (inn 42 10), defBody (inn 42 10), defScope (inn 42 10), [], []⟩, ["self"], ["self"], ⟨1, 1, b_Vault_shape⟩, []⟩
abbrev n_Vault_shape : Nat := 59
def L : Ld where
  fds := ([f__wall, f_is_integer, f_is_name, f_is_expression, f_good_cells, f_good_heads, f_good_deeds, f_has_coin, f_calls_of, f_is_state_of, f_is_state, f_is_call] : List (Fd)) ++ ([f_row_fault, f_check_state, f_check_row, f_check_plain, f_value, f_run, f_led_from, f_led, f_answered, f_begun, f__law_pool, f__law_draw] : List (Fd)) ++ ([f__law_cells, f__law_e, f__law_rows, f__law_body, f__law_deeds, f__law_calls, f__law_row, f__law_value, f__law_step, f__law_do, f__law_call, f__law_same] : List (Fd)) ++ ([f__law_long_row, f__law_past, f_law, f_Body___init__, f_Body_good_rows, f_Body_good_row, f_Body_good_part, f_Walk___init__, f_Walk_do_rows, f_Walk_do_row, f_Walk_do_times, f_Walk_do_coin] : List (Fd)) ++ ([f_Walk_do_step, f_Vault___init__, f_Vault___eq__, f_Vault_sizes, f_Vault_first, f_Vault_names, f_Vault_check_name, f_Vault_choices, f_Vault_rows, f_Vault_calls, f_Vault_has_coins, f_Vault_shape] : List (Fd))
  cls := [("PastError", some none), ("NoName", some none), ("NoState", some none), ("HasCoins", some none), ("NoVault", some (some 16)), ("NoRow", some (some 17)), ("Body", none), ("Walk", none), ("Vault", none)]
  flds := ["size_row", "choice_table", "coined", "used", "trace", "cells", "result", "begin", "deed_row", "coin_count", "row_count", "many_cells", "body_table", "coins", "held", "cell_row", "part", "index"]
  gls := [("LETTERS", (.str [97, 98, 99, 100, 101, 102, 103, 104, 105, 106, 107, 108, 109, 110, 111, 112, 113, 114, 115, 116, 117, 118, 119, 120, 121, 122])), ("SIGNS", (.tup [(.str [43]), (.str [45]), (.str [42]), (.str [61]), (.str [60])])), ("KEEPERS", (.tup [(.str [97]), (.str [98]), (.str [99]), (.str [100])])), ("REGISTERS", (.tup [(.str [97]), (.str [98]), (.str [99]), (.str [100]), (.str [120])])), ("MOST_ROWS", (.int 2000)), ("MOST_COINS", (.int 4)), ("DEEPEST_ROW", (.int 12)), ("DEEPEST_EXPRESSION", (.int 6)), ("FORMS", (.kon 0))]
  mts := ([(6, 42, "good_part"), (6, 41, "good_row"), (6, 40, "good_rows"), (7, 47, "do_coin"), (7, 45, "do_row"), (7, 44, "do_rows"), (7, 48, "do_step"), (7, 46, "do_times"), (8, 50, "__eq__"), (8, 57, "calls"), (8, 54, "check_name"), (8, 55, "choices")] : List (Nat × Nat × Str)) ++ ([(8, 52, "first"), (8, 58, "has_coins"), (8, 53, "names"), (8, 56, "rows"), (8, 59, "shape"), (8, 51, "sizes")] : List (Nat × Nat × Str))
  mks := [(6, 39), (7, 43), (8, 49)]
  xis := [(4, ⟨("NoVault", some "__init__"), "__init__", "NoVault.__init__", defArgs (inn 6 0), defBody (inn 6 0), defScope (inn 6 0), [], []⟩, "self", "part"), (5, ⟨("NoRow", some "__init__"), "__init__", "NoRow.__init__", defArgs (inn 7 0), defBody (inn 7 0), defScope (inn 7 0), [], []⟩, "self", "index")]
  subs := ([(0, 0), (1, 1), (1, 0), (2, 2), (2, 0), (3, 3), (3, 0), (4, 4), (4, 0), (5, 5), (5, 0), (6, 6)] : List (Nat × Nat)) ++ ([(7, 7), (8, 8)] : List (Nat × Nat))
  kons := [("FORMS", [([114, 101, 97, 100], (.str [82, 67])), ([115, 101, 116], (.str [67, 69])), ([115, 119, 97, 112], (.str [82, 67, 69, 69])), ([107, 101, 101, 112], (.str [82, 69])), ([99, 111, 105, 110], (.str [82])), ([105, 102], (.str [69, 66, 66])), ([116, 105, 109, 101, 115], (.str [69, 66])), ([97, 110, 115, 119, 101, 114], (.str [69]))])]
theorem stat : L.stat = true := by kernel_rfl
abbrev T : Tab := L.tab
theorem glo_0 : T.glo 0 = some (.str [97, 98, 99, 100, 101, 102, 103, 104, 105, 106, 107, 108, 109, 110, 111, 112, 113, 114, 115, 116, 117, 118, 119, 120, 121, 122]) := by kernel_rfl
theorem glo_1 : T.glo 1 = some (.tup [(.str [43]), (.str [45]), (.str [42]), (.str [61]), (.str [60])]) := by kernel_rfl
theorem glo_2 : T.glo 2 = some (.tup [(.str [97]), (.str [98]), (.str [99]), (.str [100])]) := by kernel_rfl
theorem glo_3 : T.glo 3 = some (.tup [(.str [97]), (.str [98]), (.str [99]), (.str [100]), (.str [120])]) := by kernel_rfl
theorem glo_4 : T.glo 4 = some (.int 2000) := by kernel_rfl
theorem glo_5 : T.glo 5 = some (.int 4) := by kernel_rfl
theorem glo_6 : T.glo 6 = some (.int 12) := by kernel_rfl
theorem glo_7 : T.glo 7 = some (.int 6) := by kernel_rfl
theorem glo_8 : T.glo 8 = some (.kon 0) := by kernel_rfl
theorem konn_0 : (T.kon 0 ≠ []) = True := propext ⟨fun _ => trivial, fun _ h => absurd ((congrArg List.isEmpty h).symm.trans (show (T.kon 0).isEmpty = false by kernel_rfl)) (by decide)⟩
theorem konq_0_0 : getC (T.kon 0) (.str [114, 101, 97, 100]) = some (.str [82, 67]) := by kernel_rfl
theorem konq_0_1 : getC (T.kon 0) (.str [115, 101, 116]) = some (.str [67, 69]) := by kernel_rfl
theorem konq_0_2 : getC (T.kon 0) (.str [115, 119, 97, 112]) = some (.str [82, 67, 69, 69]) := by kernel_rfl
theorem konq_0_3 : getC (T.kon 0) (.str [107, 101, 101, 112]) = some (.str [82, 69]) := by kernel_rfl
theorem konq_0_4 : getC (T.kon 0) (.str [99, 111, 105, 110]) = some (.str [82]) := by kernel_rfl
theorem konq_0_5 : getC (T.kon 0) (.str [105, 102]) = some (.str [69, 66, 66]) := by kernel_rfl
theorem konq_0_6 : getC (T.kon 0) (.str [116, 105, 109, 101, 115]) = some (.str [69, 66]) := by kernel_rfl
theorem konq_0_7 : getC (T.kon 0) (.str [97, 110, 115, 119, 101, 114]) = some (.str [69]) := by kernel_rfl
theorem alt_0 : List.lookup 6 [(6, 40)] = some 40 := by rfl
theorem alt_1 : List.lookup 6 [(6, 41)] = some 41 := by rfl
theorem alt_2 : List.lookup 6 [(6, 42)] = some 42 := by rfl
theorem alt_3 : List.lookup 7 [(7, 44)] = some 44 := by rfl
theorem alt_4 : List.lookup 7 [(7, 45)] = some 45 := by rfl
theorem alt_5 : List.lookup 7 [(7, 46)] = some 46 := by rfl
theorem alt_6 : List.lookup 7 [(7, 47)] = some 47 := by rfl
theorem alt_7 : List.lookup 7 [(7, 48)] = some 48 := by rfl
theorem alt_8 : List.lookup 8 [(8, 54)] = some 54 := by rfl
theorem exf_0 : T.exf 0 = some none := by kernel_rfl
theorem exf_1 : T.exf 1 = some none := by kernel_rfl
theorem exf_2 : T.exf 2 = some none := by kernel_rfl
theorem exf_3 : T.exf 3 = some none := by kernel_rfl
theorem exf_4 : T.exf 4 = some (some 16) := by kernel_rfl
theorem exf_5 : T.exf 5 = some (some 17) := by kernel_rfl
abbrev c_PastError : Nat := 0
abbrev c_NoName : Nat := 1
abbrev c_NoState : Nat := 2
abbrev c_HasCoins : Nat := 3
abbrev c_NoVault : Nat := 4
abbrev c_NoRow : Nat := 5
abbrev c_Body : Nat := 6
abbrev c_Walk : Nat := 7
abbrev c_Vault : Nat := 8
abbrev d_size_row : Nat := 0
abbrev d_choice_table : Nat := 1
abbrev d_coined : Nat := 2
abbrev d_used : Nat := 3
abbrev d_trace : Nat := 4
abbrev d_cells : Nat := 5
abbrev d_result : Nat := 6
abbrev d_begin : Nat := 7
abbrev d_deed_row : Nat := 8
abbrev d_coin_count : Nat := 9
abbrev d_row_count : Nat := 10
abbrev d_many_cells : Nat := 11
abbrev d_body_table : Nat := 12
abbrev d_coins : Nat := 13
abbrev d_held : Nat := 14
abbrev d_cell_row : Nat := 15
abbrev d_part : Nat := 16
abbrev d_index : Nat := 17
end Y.K_k12
set_option Elab.async false
set_option linter.all false
set_option maxRecDepth 100000
set_option maxHeartbeats 0
namespace Y.K_k12
open PySem PySem.Spec PyProof.Rows L2
abbrev R : PySem.W.OpenRow := PySem.W.OpenLaw.row PySem.Challenge.rw_pastless_k12_pasts_led_and_answered
abbrev hk : PySem.W.Hook := He.hookX 5 [] L.defs L.tabs [] L.facts
def ob (s : PySem.W.SharedT) : He.AlX := He.obsX 5 [] L.defs L.tabs [] L.facts (HandSHeadRun.getT s)
theorem ob_eq (s : PySem.W.SharedT) : ob s = hk.obs s.abs := He.obsX_eq (HandSHeadRun.getT_eq s)
def loose : List Str := (["_wall", "PastError", "NoName", "NoState", "HasCoins", "NoVault", "NoRow", "LETTERS", "SIGNS", "KEEPERS", "REGISTERS", "MOST_ROWS", "MOST_COINS", "DEEPEST_ROW", "DEEPEST_EXPRESSION", "FORMS"] : List Str) ++ (["is_integer", "is_name", "is_expression", "Body", "good_cells", "good_heads", "good_deeds", "has_coin", "calls_of", "is_state_of", "is_state", "is_call", "row_fault", "check_state", "check_row", "check_plain"] : List Str) ++ (["value", "Walk", "run", "led_from", "led", "answered", "Vault", "begun", "_law_pool", "_law_draw", "_law_cells", "_law_e", "_law_rows", "_law_body", "_law_deeds", "_law_calls"] : List Str) ++ (["_law_row", "_law_value", "_law_step", "_law_do", "_law_call", "_law_same", "_law_long_row", "_law_past"] : List Str)
theorem runFA (w : World) : Y.RunA R 20000 (w.withFollow "special-get-raises" false) := by
  intro os
  kernel_rfl
theorem runFB (w : World) : Y.RunB R (PySem.W.view R.prog [61]) 20000 loose (w.withFollow "special-get-raises" false) := by
  intro os
  kernel_rfl
theorem runFC (w : World) : Y.RunC R hk ob 20000 (w.withFollow "special-get-raises" false) := by
  intro os
  kernel_rfl
theorem runTA (w : World) : Y.RunA R 20000 (w.withFollow "special-get-raises" true) := by
  intro os
  kernel_rfl
theorem runTB (w : World) : Y.RunB R (PySem.W.view R.prog [61]) 20000 loose (w.withFollow "special-get-raises" true) := by
  intro os
  kernel_rfl
theorem runTC (w : World) : Y.RunC R hk ob 20000 (w.withFollow "special-get-raises" true) := by
  intro os
  kernel_rfl
theorem run (w : World) : HandSHeadRun.RunEq R (PySem.W.view R.prog [61]) hk ob 20000 loose w :=
  PySem.W.byRow2 "special-get-raises" (P := fun w => HandSHeadRun.RunEq R (PySem.W.view R.prog [61]) hk ob 20000 loose w) (fun w => Y.run_parts (runFA w) (runFB w) (runFC w)) (fun w => Y.run_parts (runTA w) (runTB w) (runTC w)) w
end Y.K_k12
set_option linter.all false
set_option maxHeartbeats 4000000
set_option maxRecDepth 100000
namespace Y.K_k12
open Y PySem
local macro_rules
  | `(tactic| simp! [$ls,*]) => `(tactic| simp (implicitDefEqProofs := false) (dsimp := false) (failIfUnchanged := false) only [lz1, z_ifT, z_ifF, k_c0, k_c1, k_c2, k_c3, k_c4, k_c5, k_c6, k_few0, k_fewS, k_lkm, k_pf0, k_pfh, k_pfm, k_cls, k_clsO, ks_nx, ks_rt, ks_bk, ks_ct, ks_xc, kl_nx, kl_rt, kl_bk, kl_ct, kl_xc, kc_nx, kc_rt, kc_xc, kt_nx, kt_rt, kt_bk, kt_ct, kt_xc, kh_nx, kh_rt, un_n, un_s, isNon_1, isNon_2, isNon_3, isNon_4, isNon_5, isNon_6, isNon_7, boolQ_1, intQ_1, optQ_1, lstQ_1, sqQ_1, sqQ_2, cntQ_1, cntQ_2, cntQ_3, dicQ_1, insQ_1, getIx_0, getIx_1, getIx_2, getIx_3, getIx_4, getIx_5, ixrQ_1, ixrQ_2, ixrQ_3, ixrQ_4, setIx_0, setIx_1, setIx_2, bindQ_nm, bindL_0, bindL_1, bindQ_tp, z_var, z_con, z_glo, z_bin, z_neg, z_cmp, z_chain, z_isN, z_notN, z_and, z_or, z_not, z_ife, z_call, z_make, methQ_1, z_meth, z_fld, z_pr, z_me, z_isi, z_idx, z_sli, z_abs0, z_tup, z_lst, z_dic, z_dcomp, z_fstr, z_efld, z_eisi, z_comp, z_Tcmp, z_Tchain, z_TisN, z_TnotN, z_Tand, z_Tor, z_Tnot, z_Ttv, z_nil, z_cons, z_Fnil, z_Fcons, z_Tsn, z_Ts1, z_rng1, int2Q_1, z_rng2, z_enm, z_zip, z_sq, z_Bnil, z_Bcons, z_asg, z_asgt, z_asg2, z_setf, z_seti, augQ_1, augQ_2, z_augn, z_augf, z_exp, z_ret, z_retN, z_if, z_for, z_whl, z_brk, z_cnt, z_pas, z_rais0, z_rais1, z_try, z_Hnil, z_Hcons, v_v0, v_vs, v_add, v_sub, v_mul, v_fdiv, v_mod, v_pow, v_sadd, v_tadd, v_ladd, v_lmul, v_int, v_intb, v_abs, v_max2, v_min2, v_stri, v_lens, v_lenm, v_len0, v_len1, v_len2, v_len3, v_len4, v_len5, v_len6, v_lenr, v_tupt, v_tupr, v_lstt, v_lstr, v_any, v_all, v_ixt, v_ixr, v_kon, v_seti, strQ_1, strQ_2, strQ_3, v_pts, v_ptn, v_sls, v_slt, v_slr, v_fld, v_setf, v_okl, v_oks, v_app, v_pop, v_lt, v_le, v_gt, v_ge, v_eq, v_ne, v_in, v_ni, v_eqii, v_eqss, v_eqbb, v_eqsi, v_eqis, v_eqni, v_eqin, v_eqns, v_eqsn, v_trn, v_trb, v_tri, v_trt, v_trr, v_trs, v_fms, v_fmi, v_inp, inrQ_1, inrQ_2, inrQ_3, v_inl, v_inK, v_ins, t_n, t_b, t_i, t_s, t_t, t_r, tyO_1, tyO_2, tyO_3, tyO_4, y_n, y_b, y_i, y_s, y_t, y_l, y_d, y_o, y_o1, y_o2, y_o3, y_o4, y_o5, y_o6, w_t, w_s, w_r, w_e, w_zs, w_zt, List.map_cons, List.map_nil, List.replicate_succ, List.replicate_zero, List.cons_append, List.nil_append, List.append_nil, List.set_cons_zero, List.set_cons_succ, List.any_cons, List.any_nil, List.lookup_cons_self, meT, reduceCtorEq, decide_true, decide_false, Bool.or_false, Bool.false_or, Bool.or_true, Bool.true_or, Bool.not_true, Bool.not_false, Bool.and_true, Bool.true_and, Bool.and_false, Bool.false_and, true_and, and_true, wipeE, Option.isSome_some, Option.isSome_none, List.getElem?_concat_length, Nat.reduceBEq, Int.reduceEq, Int.reduceLT, Int.reduceLE, Int.reduceNeg, glo_0, glo_1, glo_2, glo_3, glo_4, glo_5, glo_6, glo_7, glo_8, konn_0, konq_0_0, konq_0_1, konq_0_2, konq_0_3, konq_0_4, konq_0_5, konq_0_6, konq_0_7, alt_0, alt_1, alt_2, alt_3, alt_4, alt_5, alt_6, alt_7, alt_8, exf_0, exf_1, exf_2, exf_3, exf_4, exf_5, c_PastError, c_NoName, c_NoState, c_HasCoins, c_NoVault, c_NoRow, c_Body, c_Walk, c_Vault, d_size_row, d_choice_table, d_coined, d_used, d_trace, d_cells, d_result, d_begin, d_deed_row, d_coin_count, d_row_count, d_many_cells, d_body_table, d_coins, d_held, d_cell_row, d_part, d_index, $ls,*])
local macro_rules
  | `(tactic| simp!) => `(tactic| simp (implicitDefEqProofs := false) (dsimp := false) (failIfUnchanged := false) only [lz1, z_ifT, z_ifF, k_c0, k_c1, k_c2, k_c3, k_c4, k_c5, k_c6, k_few0, k_fewS, k_lkm, k_pf0, k_pfh, k_pfm, k_cls, k_clsO, ks_nx, ks_rt, ks_bk, ks_ct, ks_xc, kl_nx, kl_rt, kl_bk, kl_ct, kl_xc, kc_nx, kc_rt, kc_xc, kt_nx, kt_rt, kt_bk, kt_ct, kt_xc, kh_nx, kh_rt, un_n, un_s, isNon_1, isNon_2, isNon_3, isNon_4, isNon_5, isNon_6, isNon_7, boolQ_1, intQ_1, optQ_1, lstQ_1, sqQ_1, sqQ_2, cntQ_1, cntQ_2, cntQ_3, dicQ_1, insQ_1, getIx_0, getIx_1, getIx_2, getIx_3, getIx_4, getIx_5, ixrQ_1, ixrQ_2, ixrQ_3, ixrQ_4, setIx_0, setIx_1, setIx_2, bindQ_nm, bindL_0, bindL_1, bindQ_tp, z_var, z_con, z_glo, z_bin, z_neg, z_cmp, z_chain, z_isN, z_notN, z_and, z_or, z_not, z_ife, z_call, z_make, methQ_1, z_meth, z_fld, z_pr, z_me, z_isi, z_idx, z_sli, z_abs0, z_tup, z_lst, z_dic, z_dcomp, z_fstr, z_efld, z_eisi, z_comp, z_Tcmp, z_Tchain, z_TisN, z_TnotN, z_Tand, z_Tor, z_Tnot, z_Ttv, z_nil, z_cons, z_Fnil, z_Fcons, z_Tsn, z_Ts1, z_rng1, int2Q_1, z_rng2, z_enm, z_zip, z_sq, z_Bnil, z_Bcons, z_asg, z_asgt, z_asg2, z_setf, z_seti, augQ_1, augQ_2, z_augn, z_augf, z_exp, z_ret, z_retN, z_if, z_for, z_whl, z_brk, z_cnt, z_pas, z_rais0, z_rais1, z_try, z_Hnil, z_Hcons, v_v0, v_vs, v_add, v_sub, v_mul, v_fdiv, v_mod, v_pow, v_sadd, v_tadd, v_ladd, v_lmul, v_int, v_intb, v_abs, v_max2, v_min2, v_stri, v_lens, v_lenm, v_len0, v_len1, v_len2, v_len3, v_len4, v_len5, v_len6, v_lenr, v_tupt, v_tupr, v_lstt, v_lstr, v_any, v_all, v_ixt, v_ixr, v_kon, v_seti, strQ_1, strQ_2, strQ_3, v_pts, v_ptn, v_sls, v_slt, v_slr, v_fld, v_setf, v_okl, v_oks, v_app, v_pop, v_lt, v_le, v_gt, v_ge, v_eq, v_ne, v_in, v_ni, v_eqii, v_eqss, v_eqbb, v_eqsi, v_eqis, v_eqni, v_eqin, v_eqns, v_eqsn, v_trn, v_trb, v_tri, v_trt, v_trr, v_trs, v_fms, v_fmi, v_inp, inrQ_1, inrQ_2, inrQ_3, v_inl, v_inK, v_ins, t_n, t_b, t_i, t_s, t_t, t_r, tyO_1, tyO_2, tyO_3, tyO_4, y_n, y_b, y_i, y_s, y_t, y_l, y_d, y_o, y_o1, y_o2, y_o3, y_o4, y_o5, y_o6, w_t, w_s, w_r, w_e, w_zs, w_zt, List.map_cons, List.map_nil, List.replicate_succ, List.replicate_zero, List.cons_append, List.nil_append, List.append_nil, List.set_cons_zero, List.set_cons_succ, List.any_cons, List.any_nil, List.lookup_cons_self, meT, reduceCtorEq, decide_true, decide_false, Bool.or_false, Bool.false_or, Bool.or_true, Bool.true_or, Bool.not_true, Bool.not_false, Bool.and_true, Bool.true_and, Bool.and_false, Bool.false_and, true_and, and_true, wipeE, Option.isSome_some, Option.isSome_none, List.getElem?_concat_length, Nat.reduceBEq, Int.reduceEq, Int.reduceLT, Int.reduceLE, Int.reduceNeg, glo_0, glo_1, glo_2, glo_3, glo_4, glo_5, glo_6, glo_7, glo_8, konn_0, konq_0_0, konq_0_1, konq_0_2, konq_0_3, konq_0_4, konq_0_5, konq_0_6, konq_0_7, alt_0, alt_1, alt_2, alt_3, alt_4, alt_5, alt_6, alt_7, alt_8, exf_0, exf_1, exf_2, exf_3, exf_4, exf_5, c_PastError, c_NoName, c_NoState, c_HasCoins, c_NoVault, c_NoRow, c_Body, c_Walk, c_Vault, d_size_row, d_choice_table, d_coined, d_used, d_trace, d_cells, d_result, d_begin, d_deed_row, d_coin_count, d_row_count, d_many_cells, d_body_table, d_coins, d_held, d_cell_row, d_part, d_index])
def Pool (h : Nat) (st : Store) : Prop := ∃ c s t : Int, st[h]? = some (.lst [.int c, .int s, .int t]) ∧ 0 ≤ c ∧ 0 ≤ s ∧ s < 2 ^ 40
structure Ch (h : Nat) (st st' : Store) : Prop where
  pool : Pool h st'
  len : st.length ≤ st'.length
  same : ∀ g, g ≠ h → g < st.length → st'[g]? = st[g]?
theorem Pool.lt {h : Nat} {st : Store} (p : Pool h st) : h < st.length := by
  obtain ⟨c, s, t, e, _⟩ := p
  exact lt_of_get e
theorem Pool.app {h : Nat} {st st2 : Store} (p : Pool h st) : Pool h (st ++ st2) := by
  obtain ⟨c, s, t, e, q⟩ := p
  exact ⟨c, s, t, get_app _ e, q⟩
theorem Pool.set {h g : Nat} {o : O} {st : Store} (p : Pool h st) (ne : g ≠ h) : Pool h (st.set g o) := by
  obtain ⟨c, s, t, e, q⟩ := p
  exact ⟨c, s, t, get_set e ne, q⟩
theorem Pool.keep {g : Nat} {a b : Store} (p : Pool g a) (x : Keep a b) : Pool g b := by
  obtain ⟨c, s, t, e, q⟩ := p
  exact ⟨c, s, t, x.get e, q⟩
theorem Ch.refl {h : Nat} {st : Store} (p : Pool h st) : Ch h st st := ⟨p, Nat.le_refl _, fun _ _ _ => rfl⟩
theorem Ch.trans {h : Nat} {a b c : Store} (x : Ch h a b) (y : Ch h b c) : Ch h a c := ⟨y.pool, Nat.le_trans x.len y.len, fun g n l => (y.same g n (Nat.lt_of_lt_of_le l x.len)).trans (x.same g n l)⟩
theorem Ch.app {h : Nat} {a b c : Store} (x : Ch h a b) : Ch h a (b ++ c) := ⟨x.pool.app, by rw [List.length_append]; exact Nat.le_trans x.len (Nat.le_add_right _ _), fun g n l => by rw [List.getElem?_append_left (Nat.lt_of_lt_of_le l x.len)]; exact x.same g n l⟩
theorem Ch.set {h g : Nat} {o : O} {a b : Store} (x : Ch h a b) (ne : g ≠ h) (l : a.length ≤ g) : Ch h a (b.set g o) := ⟨x.pool.set ne, by simpa using x.len, fun k n l2 => by rw [List.getElem?_set_ne (by omega)]; exact x.same k n l2⟩
theorem Ch.keep {h : Nat} {a b c : Store} (x : Ch h a b) (y : Keep b c) : Ch h a c := ⟨x.pool.keep y, Nat.le_trans x.len y.len, fun g n l => (y.same g (Nat.lt_of_lt_of_le l x.len)).trans (x.same g n l)⟩
theorem Ch.get {h g : Nat} {a b : Store} {o : O} (x : Ch h a b) (e : a[g]? = some o) (ne : g ≠ h) : b[g]? = some o := (x.same g ne (lt_of_get e)).trans e
theorem Ch.pool2 {h g : Nat} {a b : Store} (x : Ch h a b) (p : Pool g a) (ne : g ≠ h) : Pool g b := by
  obtain ⟨c, s, t, e, q⟩ := p
  exact ⟨c, s, t, x.get e ne, q⟩
theorem getIx_m {xs : List D} {i : Int} {F : D → Prop} {c : D} (h0 : 0 ≤ i) (e : xs[i.toNat]? = some c) : getIx xs i F = F c := getIx_of (ix_pos h0 (by have := (List.getElem?_eq_some_iff.mp e).1; omega)) e
theorem draw {k h : Nat} {m : Int} {st : Store} {Q : QE} {X : QX} (hm : 0 < m) (hm2 : m < 1073741824) (P : Pool h st) (hq : ∀ (v : Int) (st' : Store), 0 ≤ v → v < m → st'.length = st.length → Ch h st st' → Q (.int v) st') : Call T (k + 1) n__law_draw [.ref h, .int m] st Q X := by
  obtain ⟨c, s, t, e, hc0, hs, hs2⟩ := P
  have l : h < st.length := lt_of_get e
  have up : ∀ (c' s' t' : Int), 0 ≤ c' → 0 ≤ s' → s' < 2 ^ 40 → Ch h st (st.set h (.lst [.int c', .int s', .int t'])) := fun c' s' t' h1 h2 h3 =>
    ⟨⟨c', s', t', List.getElem?_set_self l, h1, h2, h3⟩, by simp, fun g hg _ => List.getElem?_set_ne (Ne.symm hg)⟩
  have g1 : ∀ o : O, (st.set h o)[h]? = some o := fun o => List.getElem?_set_self l
  refine call_z f__law_draw.fn rfl rfl ?_
  show wpB T (Call T k) none b__law_draw [some (.ref h), some (.int m), none, none] st _
  unfold b__law_draw
  simp! [e]
  refine ifd (fun hc => ?_) (fun hc => ?_)
  · simp! [e]
    refine ⟨hm, ?_⟩
    simp! [e]
    refine ⟨⟨hm, hm2⟩, ?_⟩
    simp!
    exact hq _ _ (Int.emod_nonneg _ (by omega)) (Int.emod_lt_of_pos _ hm) (by simp) (up _ _ _ (Int.ediv_nonneg (by omega) (by omega)) hs hs2)
  · simp! [e, g1, List.set_set]
    refine ⟨.inl ⟨by decide, by decide⟩, ⟨.inl ⟨by omega, by omega⟩, ?_⟩⟩
    have n1 := Int.emod_nonneg ((s + 1) * (7919 * (t + 1) + 104729)) (show (2147483647 : Int) ≠ 0 by decide)
    have n2 := Int.emod_lt_of_pos ((s + 1) * (7919 * (t + 1) + 104729)) (show (0 : Int) < 2147483647 by decide)
    simp!
    generalize (s + 1) * (7919 * (t + 1) + 104729) % 2147483647 = a at n1 n2 ⊢
    refine ⟨.inl ⟨by omega, by omega⟩, ?_⟩
    have n3 := Int.emod_nonneg (a * (a / 1009 + 69621)) (show (2147483647 : Int) ≠ 0 by decide)
    have n4 := Int.emod_lt_of_pos (a * (a / 1009 + 69621)) (show (0 : Int) < 2147483647 by decide)
    simp!
    generalize a * (a / 1009 + 69621) % 2147483647 = b at n3 n4 ⊢
    refine ⟨.inl ⟨by omega, by omega⟩, ?_⟩
    have n5 := Int.emod_nonneg (b * (b / 2003 + 40692)) (show (2147483399 : Int) ≠ 0 by decide)
    simp!
    generalize b * (b / 2003 + 40692) % 2147483399 = c2 at n5 ⊢
    refine ⟨hm, ?_⟩
    simp!
    exact hq _ _ (Int.emod_nonneg _ (by omega)) (Int.emod_lt_of_pos _ hm) (by simp) (up _ _ _ hc0 hs hs2)
theorem pool {k : Nat} {i : Int} {ns : List Int} {st : Store} {Q : QE} {X : QX} (h0 : st[0]? = some (.fro (ns.map D.int))) (hl : ns.length ≤ 63) (hi : 0 ≤ i ∧ i ≤ 1000) (hq : ∀ st', Pool st.length (st ++ [st']) → Q (.ref st.length) (st ++ [st'])) : Call T (k + 1) n__law_pool [.ref 0, .int i] st Q X := by
  refine call_z f__law_pool.fn rfl rfl ?_
  show wpB T (Call T k) none b__law_pool [some (.ref 0), some (.int i), none, none] st _
  unfold b__law_pool
  have mk : ∀ c s : Int, 0 ≤ c → 0 ≤ s → s < 2 ^ 40 → Q (.ref st.length) (st ++ [.lst [.int c, .int s, .int 0]]) := fun c s h1 h2 h3 => hq _ ⟨c, s, 0, get_snoc _ _, h1, h2, h3⟩
  simp! [h0]
  refine ifd (fun hc => ?_) (fun hc => ?_)
  · simp!
    refine ⟨.inl ⟨by decide, by decide⟩, ?_⟩
    simp!
    exact mk _ _ (by omega) (by omega) (by omega)
  · have hn : 0 < ((ns.map D.int).length : Int) := by
      have : (ns.map D.int).length ≠ 0 := fun z => hc (by rw [z]; rfl)
      omega
    have im := Int.emod_lt_of_pos i hn
    have im0 := Int.emod_nonneg i (show ((ns.map D.int).length : Int) ≠ 0 by omega)
    have jl : (i % ((ns.map D.int).length : Int)).toNat < ns.length := by
      have : ((ns.map D.int).length : Int) = ns.length := by rw [List.length_map]
      omega
    have look : ∀ {F : D → Prop}, getIx (ns.map D.int) (i % ((ns.map D.int).length : Int)) F = F (.int ns[(i % ((ns.map D.int).length : Int)).toNat]) := fun {F} => getIx_m im0 (by rw [List.getElem?_map, List.getElem?_eq_getElem jl]; rfl)
    simp! [h0]
    refine ⟨hn, ?_⟩
    rw [look]
    simp! [h0]
    refine ⟨.inl ⟨by decide, by decide⟩, hn, ?_⟩
    rw [look]
    simp! [h0]
    generalize ns[(i % ((ns.map D.int).length : Int)).toNat] = v
    have c0 : 0 ≤ (if v < 0 then -v else v) := by split <;> omega
    generalize (if v < 0 then -v else v) = cell at c0 ⊢
    have s0 := Int.emod_nonneg cell (show (2147483629 : Int) ≠ 0 by decide)
    have s1 := Int.emod_lt_of_pos cell (show (0 : Int) < 2147483629 by decide)
    have b0 : 0 ≤ (if decide (v < 0) = true then (1 : Int) else 0) ∧ (if decide (v < 0) = true then (1 : Int) else 0) ≤ 1 := by split <;> decide
    generalize (if decide (v < 0) = true then (1 : Int) else 0) = bb at b0 ⊢
    generalize cell % 2147483629 = sd at s0 s1 ⊢
    refine ifd (fun _ => ?_) (fun _ => ?_)
    · simp!
      refine ⟨by decide, ?_⟩
      simp!
      refine ifd (fun _ => ?_) (fun _ => ?_)
      · simp!
        exact mk _ _ c0 (by omega) (by omega)
      · simp!
        exact mk _ _ (by decide) (by omega) (by omega)
    · simp!
      exact mk _ _ (by decide) (by omega) (by omega)
theorem gen {v h n : Nat} {elt : Env → Store → QE → Prop} {tests : Env → Store → (Bool → Store → Prop) → Prop} {env : Env} {st : Store} {Q : QE} (R : D → Prop) (hn : n ≤ 1000) (p : Pool h st)
    (ht : ∀ e s P, P true s → tests e s P)
    (turn : ∀ (e : Env) (i : Nat) (s : Store) (Q' : QE), i < n → e = env.set v (some (.int i)) → Ch h st s → (∀ d s', R d → Ch h s s' → Q' d s') → elt e s Q')
    (done : ∀ ds s, ds.length = n → (∀ d ∈ ds, R d) → s[st.length]? = some (.lst ds) → Ch h st s → Q (.ref st.length) s) :
    ∃ m, cmpN (.seq (rngD 0 n)) (.nm v) tests elt st.length Q m 0 env (st ++ [.lst []]) := by
  rw [rngD_rg]
  have ne : st.length ≠ h := Nat.ne_of_gt p.lt
  refine cmp_s (fun r acc s => ∃ i m, i + m = n ∧ r = rg i m ∧ acc.length = i ∧ (∀ d ∈ acc, R d) ∧ s[st.length]? = some (.lst acc) ∧ Ch h st s) ⟨0, n, by omega, rfl, rfl, fun _ m => (by cases m), get_snoc _ _, (Ch.refl p).app⟩ (fun d r acc s N ⟨i, m, e1, e2, e3, e4, e5, e6⟩ hN => ?_) (fun acc s ⟨i, m, e1, e2, e3, e4, e5, e6⟩ => ?_)
  · cases m with
    | zero => cases e2
    | succ m =>
      rw [rg_succ] at e2
      cases e2
      refine ht _ _ _ ?_
      simp!
      refine turn _ i s _ (by omega) rfl e6 fun d s' r c => ?_
      simp! [c.get e5 ne]
      refine ⟨lt_line (by omega), hN _ _ ⟨i + 1, m, by omega, rfl, by simp [e3], fun x hx => ?_, set_get (c.get e5 ne), (e6.trans c).set ne (Nat.le_refl _)⟩⟩
      rcases List.mem_append.mp hx with z | z
      · exact e4 x z
      · rw [List.mem_singleton.mp z]
        exact r
  · cases m with
    | succ m => rw [rg_succ] at e2; cases e2
    | zero => exact done acc s (by omega) e4 e5 e6
theorem sign_of {T : Tab} {z : List Nat} {i : Int} {st : Store} {Q : QE} (h0 : 0 ≤ i) (h1 : i < z.length) (hz : z.length ≤ 1000) (h : ∀ c ∈ z, Q (.str [c]) st) : idxQ T st (.str z) (.int i) Q :=
  go_is (le_line (by omega)) (ix_pos h0 h1) (c := z[i.toNat]'(by omega)) (List.getElem?_eq_getElem (by omega)) (h _ (List.getElem_mem _))
end Y.K_k12
set_option linter.all false
set_option maxHeartbeats 4000000
set_option maxRecDepth 100000
namespace Y.K_k12
open Y PySem
local macro_rules
  | `(tactic| simp! [$ls,*]) => `(tactic| simp (implicitDefEqProofs := false) (dsimp := false) (failIfUnchanged := false) only [lz1, z_ifT, z_ifF, k_c0, k_c1, k_c2, k_c3, k_c4, k_c5, k_c6, k_few0, k_fewS, k_lkm, k_pf0, k_pfh, k_pfm, k_cls, k_clsO, ks_nx, ks_rt, ks_bk, ks_ct, ks_xc, kl_nx, kl_rt, kl_bk, kl_ct, kl_xc, kc_nx, kc_rt, kc_xc, kt_nx, kt_rt, kt_bk, kt_ct, kt_xc, kh_nx, kh_rt, un_n, un_s, isNon_1, isNon_2, isNon_3, isNon_4, isNon_5, isNon_6, isNon_7, boolQ_1, intQ_1, optQ_1, lstQ_1, sqQ_1, sqQ_2, cntQ_1, cntQ_2, cntQ_3, dicQ_1, insQ_1, getIx_0, getIx_1, getIx_2, getIx_3, getIx_4, getIx_5, ixrQ_1, ixrQ_2, ixrQ_3, ixrQ_4, setIx_0, setIx_1, setIx_2, bindQ_nm, bindL_0, bindL_1, bindQ_tp, z_var, z_con, z_glo, z_bin, z_neg, z_cmp, z_chain, z_isN, z_notN, z_and, z_or, z_not, z_ife, z_call, z_make, methQ_1, z_meth, z_fld, z_pr, z_me, z_isi, z_idx, z_sli, z_abs0, z_tup, z_lst, z_dic, z_dcomp, z_fstr, z_efld, z_eisi, z_comp, z_Tcmp, z_Tchain, z_TisN, z_TnotN, z_Tand, z_Tor, z_Tnot, z_Ttv, z_nil, z_cons, z_Fnil, z_Fcons, z_Tsn, z_Ts1, z_rng1, int2Q_1, z_rng2, z_enm, z_zip, z_sq, z_Bnil, z_Bcons, z_asg, z_asgt, z_asg2, z_setf, z_seti, augQ_1, augQ_2, z_augn, z_augf, z_exp, z_ret, z_retN, z_if, z_for, z_whl, z_brk, z_cnt, z_pas, z_rais0, z_rais1, z_try, z_Hnil, z_Hcons, v_v0, v_vs, v_add, v_sub, v_mul, v_fdiv, v_mod, v_pow, v_sadd, v_tadd, v_ladd, v_lmul, v_int, v_intb, v_abs, v_max2, v_min2, v_stri, v_lens, v_lenm, v_len0, v_len1, v_len2, v_len3, v_len4, v_len5, v_len6, v_lenr, v_tupt, v_tupr, v_lstt, v_lstr, v_any, v_all, v_ixt, v_ixr, v_kon, v_seti, strQ_1, strQ_2, strQ_3, v_pts, v_ptn, v_sls, v_slt, v_slr, v_fld, v_setf, v_okl, v_oks, v_app, v_pop, v_lt, v_le, v_gt, v_ge, v_eq, v_ne, v_in, v_ni, v_eqii, v_eqss, v_eqbb, v_eqsi, v_eqis, v_eqni, v_eqin, v_eqns, v_eqsn, v_trn, v_trb, v_tri, v_trt, v_trr, v_trs, v_fms, v_fmi, v_inp, inrQ_1, inrQ_2, inrQ_3, v_inl, v_inK, v_ins, t_n, t_b, t_i, t_s, t_t, t_r, tyO_1, tyO_2, tyO_3, tyO_4, y_n, y_b, y_i, y_s, y_t, y_l, y_d, y_o, y_o1, y_o2, y_o3, y_o4, y_o5, y_o6, w_t, w_s, w_r, w_e, w_zs, w_zt, List.map_cons, List.map_nil, List.replicate_succ, List.replicate_zero, List.cons_append, List.nil_append, List.append_nil, List.set_cons_zero, List.set_cons_succ, List.any_cons, List.any_nil, List.lookup_cons_self, meT, reduceCtorEq, decide_true, decide_false, Bool.or_false, Bool.false_or, Bool.or_true, Bool.true_or, Bool.not_true, Bool.not_false, Bool.and_true, Bool.true_and, Bool.and_false, Bool.false_and, true_and, and_true, wipeE, Option.isSome_some, Option.isSome_none, List.getElem?_concat_length, Nat.reduceBEq, Int.reduceEq, Int.reduceLT, Int.reduceLE, Int.reduceNeg, glo_0, glo_1, glo_2, glo_3, glo_4, glo_5, glo_6, glo_7, glo_8, konn_0, konq_0_0, konq_0_1, konq_0_2, konq_0_3, konq_0_4, konq_0_5, konq_0_6, konq_0_7, alt_0, alt_1, alt_2, alt_3, alt_4, alt_5, alt_6, alt_7, alt_8, exf_0, exf_1, exf_2, exf_3, exf_4, exf_5, c_PastError, c_NoName, c_NoState, c_HasCoins, c_NoVault, c_NoRow, c_Body, c_Walk, c_Vault, d_size_row, d_choice_table, d_coined, d_used, d_trace, d_cells, d_result, d_begin, d_deed_row, d_coin_count, d_row_count, d_many_cells, d_body_table, d_coins, d_held, d_cell_row, d_part, d_index, $ls,*])
local macro_rules
  | `(tactic| simp!) => `(tactic| simp (implicitDefEqProofs := false) (dsimp := false) (failIfUnchanged := false) only [lz1, z_ifT, z_ifF, k_c0, k_c1, k_c2, k_c3, k_c4, k_c5, k_c6, k_few0, k_fewS, k_lkm, k_pf0, k_pfh, k_pfm, k_cls, k_clsO, ks_nx, ks_rt, ks_bk, ks_ct, ks_xc, kl_nx, kl_rt, kl_bk, kl_ct, kl_xc, kc_nx, kc_rt, kc_xc, kt_nx, kt_rt, kt_bk, kt_ct, kt_xc, kh_nx, kh_rt, un_n, un_s, isNon_1, isNon_2, isNon_3, isNon_4, isNon_5, isNon_6, isNon_7, boolQ_1, intQ_1, optQ_1, lstQ_1, sqQ_1, sqQ_2, cntQ_1, cntQ_2, cntQ_3, dicQ_1, insQ_1, getIx_0, getIx_1, getIx_2, getIx_3, getIx_4, getIx_5, ixrQ_1, ixrQ_2, ixrQ_3, ixrQ_4, setIx_0, setIx_1, setIx_2, bindQ_nm, bindL_0, bindL_1, bindQ_tp, z_var, z_con, z_glo, z_bin, z_neg, z_cmp, z_chain, z_isN, z_notN, z_and, z_or, z_not, z_ife, z_call, z_make, methQ_1, z_meth, z_fld, z_pr, z_me, z_isi, z_idx, z_sli, z_abs0, z_tup, z_lst, z_dic, z_dcomp, z_fstr, z_efld, z_eisi, z_comp, z_Tcmp, z_Tchain, z_TisN, z_TnotN, z_Tand, z_Tor, z_Tnot, z_Ttv, z_nil, z_cons, z_Fnil, z_Fcons, z_Tsn, z_Ts1, z_rng1, int2Q_1, z_rng2, z_enm, z_zip, z_sq, z_Bnil, z_Bcons, z_asg, z_asgt, z_asg2, z_setf, z_seti, augQ_1, augQ_2, z_augn, z_augf, z_exp, z_ret, z_retN, z_if, z_for, z_whl, z_brk, z_cnt, z_pas, z_rais0, z_rais1, z_try, z_Hnil, z_Hcons, v_v0, v_vs, v_add, v_sub, v_mul, v_fdiv, v_mod, v_pow, v_sadd, v_tadd, v_ladd, v_lmul, v_int, v_intb, v_abs, v_max2, v_min2, v_stri, v_lens, v_lenm, v_len0, v_len1, v_len2, v_len3, v_len4, v_len5, v_len6, v_lenr, v_tupt, v_tupr, v_lstt, v_lstr, v_any, v_all, v_ixt, v_ixr, v_kon, v_seti, strQ_1, strQ_2, strQ_3, v_pts, v_ptn, v_sls, v_slt, v_slr, v_fld, v_setf, v_okl, v_oks, v_app, v_pop, v_lt, v_le, v_gt, v_ge, v_eq, v_ne, v_in, v_ni, v_eqii, v_eqss, v_eqbb, v_eqsi, v_eqis, v_eqni, v_eqin, v_eqns, v_eqsn, v_trn, v_trb, v_tri, v_trt, v_trr, v_trs, v_fms, v_fmi, v_inp, inrQ_1, inrQ_2, inrQ_3, v_inl, v_inK, v_ins, t_n, t_b, t_i, t_s, t_t, t_r, tyO_1, tyO_2, tyO_3, tyO_4, y_n, y_b, y_i, y_s, y_t, y_l, y_d, y_o, y_o1, y_o2, y_o3, y_o4, y_o5, y_o6, w_t, w_s, w_r, w_e, w_zs, w_zt, List.map_cons, List.map_nil, List.replicate_succ, List.replicate_zero, List.cons_append, List.nil_append, List.append_nil, List.set_cons_zero, List.set_cons_succ, List.any_cons, List.any_nil, List.lookup_cons_self, meT, reduceCtorEq, decide_true, decide_false, Bool.or_false, Bool.false_or, Bool.or_true, Bool.true_or, Bool.not_true, Bool.not_false, Bool.and_true, Bool.true_and, Bool.and_false, Bool.false_and, true_and, and_true, wipeE, Option.isSome_some, Option.isSome_none, List.getElem?_concat_length, Nat.reduceBEq, Int.reduceEq, Int.reduceLT, Int.reduceLE, Int.reduceNeg, glo_0, glo_1, glo_2, glo_3, glo_4, glo_5, glo_6, glo_7, glo_8, konn_0, konq_0_0, konq_0_1, konq_0_2, konq_0_3, konq_0_4, konq_0_5, konq_0_6, konq_0_7, alt_0, alt_1, alt_2, alt_3, alt_4, alt_5, alt_6, alt_7, alt_8, exf_0, exf_1, exf_2, exf_3, exf_4, exf_5, c_PastError, c_NoName, c_NoState, c_HasCoins, c_NoVault, c_NoRow, c_Body, c_Walk, c_Vault, d_size_row, d_choice_table, d_coined, d_used, d_trace, d_cells, d_result, d_begin, d_deed_row, d_coin_count, d_row_count, d_many_cells, d_body_table, d_coins, d_held, d_cell_row, d_part, d_index])
def az : List Nat := [97, 98, 99, 100, 101, 102, 103, 104, 105, 106, 107, 108, 109, 110, 111, 112, 113, 114, 115, 116, 117, 118, 119, 120, 121, 122]
structure IsName (x : List Nat) : Prop where
  lo : 1 ≤ x.length
  hi : x.length ≤ 8
  az : ∀ c ∈ x, c ∈ K_k12.az
theorem IsName.fits {x : List Nat} (h : IsName x) : x.length ≤ line := le_line (Nat.le_trans h.hi (by decide))
theorem inLetters : ∀ c ∈ az, (!(Builtin.Str.occurrences ⟨az.toArray⟩ ⟨[c].toArray⟩ 0 az.length 1).isEmpty) = true := by decide +kernel
theorem isint {k : Nat} {n : Int} {st : Store} {Q : QE} {X : QX} (hq : Q (.bl true) st) : Call T (k + 1) n_is_integer [.int n] st Q X := by
  refine call_z f_is_integer.fn rfl rfl ?_
  show wpB T (Call T k) none b_is_integer [some (.int n)] st _
  unfold b_is_integer
  simp!
  exact hq
theorem isname {k : Nat} {x : List Nat} {st : Store} {Q : QE} {X : QX} (hx : IsName x) (hq : Q (.bl true) st) : Call T (k + 1) n_is_name [.str x] st Q X := by
  refine call_z f_is_name.fn rfl rfl ?_
  show wpB T (Call T k) none b_is_name [some (.str x), none] st _
  unfold b_is_name
  have l1 : decide ((1 : Int) ≤ (x.length : Int)) = true := decide_eq_true (by have := hx.lo; omega)
  have l8 : decide ((x.length : Int) ≤ 8) = true := decide_eq_true (by have := hx.hi; omega)
  simp! [l1, l8]
  refine ⟨hx.fits, ?_⟩
  refine for_s (fun r env s => ∃ xs o, r = xs.map (fun c => D.str [c]) ∧ (∀ c ∈ xs, c ∈ az) ∧ s = st ∧ env = [some (.str x), o]) ⟨x, none, rfl, hx.az, rfl, rfl⟩ (fun d r env s N ⟨xs, o, e1, e2, e3, e4⟩ hN => ?_) (fun env s ⟨xs, o, e1, e2, e3, e4⟩ => ?_)
  · subst e3 e4
    cases xs with
    | nil => cases e1
    | cons c xs =>
      cases e1
      have q := inLetters c (e2 c List.mem_cons_self)
      unfold az at q
      simp! [q]
      exact hN _ _ ⟨xs, _, rfl, fun c m => e2 c (List.mem_cons_of_mem _ m), rfl, rfl⟩
  · subst e3 e4
    simp!
    exact hq
inductive Ex where
  | num (i : Int) | reg (c : Nat) | op (s : Nat) (a b : Ex)
def Ex.d : Ex → D
  | .num i => .int i
  | .reg c => .str [c]
  | .op s a b => .tup [.str [s], a.d, b.d]
def signs : List Nat := [43, 45, 42, 61, 60]
def regs : List Nat := [97, 98, 99, 100, 120]
def Ex.ok : Nat → Ex → Prop
  | _, .num i => 0 ≤ i ∧ i ≤ 9
  | _, .reg c => c ∈ regs
  | 0, .op _ _ _ => False
  | n + 1, .op s a b => s ∈ signs ∧ Ex.ok n a ∧ Ex.ok n b
theorem Ex.ok_mono : ∀ {n m : Nat} {e : Ex}, n ≤ m → e.ok n → e.ok m
  | n, m, .num i, _, h => by cases n <;> cases m <;> exact h
  | n, m, .reg c, _, h => by cases n <;> cases m <;> exact h
  | 0, m, .op _ _ _, _, h => by cases h
  | n + 1, 0, .op _ _ _, l, h => by omega
  | n + 1, m + 1, .op s a b, l, h => ⟨h.1, Ex.ok_mono (by omega) h.2.1, Ex.ok_mono (by omega) h.2.2⟩
structure Rg where
  a : Int
  b : Int
  c : Int
  d : Int
  x : Int
def Rg.get (r : Rg) (k : Nat) : Int := if k = 97 then r.a else if k = 98 then r.b else if k = 99 then r.c else if k = 100 then r.d else r.x
def Rg.put (r : Rg) (k : Nat) (v : Int) : Rg := if k = 97 then { r with a := v } else if k = 98 then { r with b := v } else if k = 99 then { r with c := v } else if k = 100 then { r with d := v } else { r with x := v }
structure Rg.ok (r : Rg) : Prop where
  a : 0 ≤ r.a ∧ r.a ≤ 9
  b : 0 ≤ r.b ∧ r.b ≤ 9
  c : 0 ≤ r.c ∧ r.c ≤ 9
  d : 0 ≤ r.d ∧ r.d ≤ 9
  x : 0 ≤ r.x ∧ r.x ≤ 9
theorem Rg.get_ok {r : Rg} (h : r.ok) (k : Nat) : 0 ≤ r.get k ∧ r.get k ≤ 9 := by
  have := h.a; have := h.b; have := h.c; have := h.d; have := h.x
  unfold Rg.get
  split
  · omega
  · split
    · omega
    · split
      · omega
      · split <;> omega
theorem Rg.put_ok {r : Rg} (h : r.ok) (k : Nat) {v : Int} (hv : 0 ≤ v ∧ v ≤ 9) : (r.put k v).ok := by
  obtain ⟨h1, h2, h3, h4, h5⟩ := h
  unfold Rg.put
  split
  · exact ⟨hv, h2, h3, h4, h5⟩
  · split
    · exact ⟨h1, hv, h3, h4, h5⟩
    · split
      · exact ⟨h1, h2, hv, h4, h5⟩
      · split
        · exact ⟨h1, h2, h3, hv, h5⟩
        · exact ⟨h1, h2, h3, h4, hv⟩
def Rg.dc (r : Rg) : List (D × D) := [(.str [97], .int r.a), (.str [98], .int r.b), (.str [99], .int r.c), (.str [100], .int r.d), (.str [120], .int r.x)]
theorem regs_cases {k : Nat} (h : k ∈ regs) : k = 97 ∨ k = 98 ∨ k = 99 ∨ k = 100 ∨ k = 120 := by simpa [regs] using h
theorem Rg.getK {r : Rg} {k : Nat} (h : k ∈ regs) : Y.getK r.dc (.str [k]) = some (.int (r.get k)) := by
  rcases regs_cases h with e | e | e | e | e <;> subst e <;> simp [Y.getK, Rg.dc, Rg.get]
theorem Rg.putK {r : Rg} {k : Nat} {v : Int} (h : k ∈ regs) : Y.putK r.dc (.str [k]) (.int v) = (r.put k v).dc := by
  unfold Y.putK
  rw [Rg.getK h]
  rcases regs_cases h with e | e | e | e | e <;> subst e <;> simp [Rg.dc, Rg.put]
def opv (s : Nat) (x y : Int) : Int := if s = 43 then (x + y) % 10 else if s = 45 then (x - y) % 10 else if s = 42 then (x * y) % 10 else if s = 61 then (if x = y then 1 else 0) else (if x < y then 1 else 0)
theorem opv_ok (s : Nat) (x y : Int) : 0 ≤ opv s x y ∧ opv s x y ≤ 9 := by
  unfold opv
  split
  · omega
  · split
    · omega
    · split
      · omega
      · split <;> split <;> omega
def Ex.val (r : Rg) : Ex → Int
  | .num i => i
  | .reg c => r.get c
  | .op s a b => opv s (a.val r) (b.val r)
theorem Ex.val_ok {r : Rg} (hr : r.ok) : ∀ {n : Nat} {e : Ex}, e.ok n → 0 ≤ e.val r ∧ e.val r ≤ 9
  | n, .num i, h => by cases n <;> exact h
  | n, .reg c, h => Rg.get_ok hr c
  | n, .op s a b, h => opv_ok _ _ _
theorem inRegs : ∀ c ∈ regs, inD (.str [c]) [.str [97], .str [98], .str [99], .str [100], .str [120]] = true := by decide +kernel
theorem inSigns : ∀ c ∈ signs, inD (.str [c]) [.str [43], .str [45], .str [42], .str [61], .str [60]] = true := by decide +kernel
theorem isexpr : ∀ (n : Nat) (e : Ex), e.ok n → ∀ (k : Nat) (m : Int) (st : Store) (Q : QE) (X : QX), m = n → Q (.bl true) st → Call T (k + n + 2) n_is_expression [e.d, .int m] st Q X := by
  intro n
  induction n with
  | zero =>
    intro e he k m st Q X hm hq
    refine call_z f_is_expression.fn rfl rfl ?_
    show wpB T (Call T (k + 1)) none b_is_expression [some e.d, some (.int m)] st _
    unfold b_is_expression
    cases e with
    | num i =>
      have h0 : decide (0 ≤ i) = true := decide_eq_true he.1
      have h9 : decide (i ≤ 9) = true := decide_eq_true he.2
      simp! [Ex.d]
      refine isint ?_
      simp! [h0, h9]
      exact hq
    | reg c =>
      simp! [Ex.d]
      refine ⟨rfl, rfl, ?_⟩
      simp! [inRegs c he]
      exact hq
    | op s a b => cases he
  | succ n ih =>
    intro e he k m st Q X hm hq
    refine call_z f_is_expression.fn rfl rfl ?_
    show wpB T (Call T (k + n + 2)) none b_is_expression [some e.d, some (.int m)] st _
    unfold b_is_expression
    cases e with
    | num i =>
      have h0 : decide (0 ≤ i) = true := decide_eq_true he.1
      have h9 : decide (i ≤ 9) = true := decide_eq_true he.2
      simp! [Ex.d]
      refine isint ?_
      simp! [h0, h9]
      exact hq
    | reg c =>
      simp! [Ex.d]
      refine ⟨rfl, rfl, ?_⟩
      simp! [inRegs c he]
      exact hq
    | op s a b =>
      have m0 : decide (m = 0) = false := decide_eq_false (by omega)
      simp! [Ex.d, m0]
      refine ⟨rfl, rfl, ?_⟩
      simp! [inSigns s he.1]
      refine ih a he.2.1 k _ st _ X (by omega) ?_
      simp!
      refine ih b he.2.2 k _ st _ X (by omega) ?_
      simp!
      exact hq
theorem intcast {b : Bool} : (if b = true then (1 : Int) else 0) = if b then 1 else 0 := rfl
theorem value_ : ∀ (n : Nat) (e : Ex), e.ok n → ∀ (k hd : Nat) (r : Rg) (st : Store) (Q : QE) (X : QX), st[hd]? = some (.dic r.dc) → r.ok → Q (.int (e.val r)) st → Call T (k + n + 1) n_value [e.d, .ref hd] st Q X := by
  intro n
  induction n with
  | zero =>
    intro e he k hd r st Q X eh hr hq
    refine call_z f_value.fn rfl rfl ?_
    show wpB T (Call T k) none b_value [some e.d, some (.ref hd), none, none] st _
    unfold b_value
    cases e with
    | num i =>
      simp! [Ex.d]
      exact hq
    | reg c =>
      simp! [Ex.d, eh, Rg.getK he]
      exact hq
    | op s a b => cases he
  | succ n ih =>
    intro e he k hd r st Q X eh hr hq
    refine call_z f_value.fn rfl rfl ?_
    show wpB T (Call T (k + n + 1)) none b_value [some e.d, some (.ref hd), none, none] st _
    unfold b_value
    cases e with
    | num i =>
      simp! [Ex.d]
      exact hq
    | reg c =>
      simp! [Ex.d, eh, Rg.getK he]
      exact hq
    | op s a b =>
      have va := Ex.val_ok hr he.2.1
      have vb := Ex.val_ok hr he.2.2
      have hq : Q (.int (opv s (a.val r) (b.val r))) st := hq
      simp! [Ex.d]
      refine ih a he.2.1 k hd r st _ X eh hr ?_
      simp! [Ex.d]
      refine ih b he.2.2 k hd r st _ X eh hr ?_
      generalize a.val r = va' at *
      generalize b.val r = vb' at *
      simp! [Ex.d]
      have hs : s = 43 ∨ s = 45 ∨ s = 42 ∨ s = 61 ∨ s = 60 := by simpa [signs] using he.1
      have ic : ∀ c : Prop, ∀ [Decidable c], (if decide c = true then (1 : Int) else 0) = if c then 1 else 0 := fun c _ => by by_cases h : c <;> simp [h]
      rcases hs with e | e | e | e | e <;> subst e
      · have t : decide (([43] : List Nat) = [43]) = true := by decide
        simp! [t]
        exact hq
      · have t : decide (([45] : List Nat) = [43]) = false := by decide
        have t2 : decide (([45] : List Nat) = [45]) = true := by decide
        simp! [t, t2]
        exact hq
      · have t : decide (([42] : List Nat) = [43]) = false := by decide
        have t2 : decide (([42] : List Nat) = [45]) = false := by decide
        have t3 : decide (([42] : List Nat) = [42]) = true := by decide
        simp! [t, t2, t3]
        refine ⟨.inl ⟨by omega, by omega⟩, ?_⟩
        simp!
        exact hq
      · have t : decide (([61] : List Nat) = [43]) = false := by decide
        have t2 : decide (([61] : List Nat) = [45]) = false := by decide
        have t3 : decide (([61] : List Nat) = [42]) = false := by decide
        have t4 : decide (([61] : List Nat) = [61]) = true := by decide
        simp! [t, t2, t3, t4]
        rw [ic]
        exact hq
      · have t : decide (([60] : List Nat) = [43]) = false := by decide
        have t2 : decide (([60] : List Nat) = [45]) = false := by decide
        have t3 : decide (([60] : List Nat) = [42]) = false := by decide
        have t4 : decide (([60] : List Nat) = [61]) = false := by decide
        simp! [t, t2, t3, t4]
        rw [ic]
        exact hq
end Y.K_k12
set_option linter.all false
set_option maxHeartbeats 4000000
set_option maxRecDepth 100000
namespace Y.K_k12
open Y PySem
local macro_rules
  | `(tactic| simp! [$ls,*]) => `(tactic| simp (implicitDefEqProofs := false) (dsimp := false) (failIfUnchanged := false) only [lz1, z_ifT, z_ifF, k_c0, k_c1, k_c2, k_c3, k_c4, k_c5, k_c6, k_few0, k_fewS, k_lkm, k_pf0, k_pfh, k_pfm, k_cls, k_clsO, ks_nx, ks_rt, ks_bk, ks_ct, ks_xc, kl_nx, kl_rt, kl_bk, kl_ct, kl_xc, kc_nx, kc_rt, kc_xc, kt_nx, kt_rt, kt_bk, kt_ct, kt_xc, kh_nx, kh_rt, un_n, un_s, isNon_1, isNon_2, isNon_3, isNon_4, isNon_5, isNon_6, isNon_7, boolQ_1, intQ_1, optQ_1, lstQ_1, sqQ_1, sqQ_2, cntQ_1, cntQ_2, cntQ_3, dicQ_1, insQ_1, getIx_0, getIx_1, getIx_2, getIx_3, getIx_4, getIx_5, ixrQ_1, ixrQ_2, ixrQ_3, ixrQ_4, setIx_0, setIx_1, setIx_2, bindQ_nm, bindL_0, bindL_1, bindQ_tp, z_var, z_con, z_glo, z_bin, z_neg, z_cmp, z_chain, z_isN, z_notN, z_and, z_or, z_not, z_ife, z_call, z_make, methQ_1, z_meth, z_fld, z_pr, z_me, z_isi, z_idx, z_sli, z_abs0, z_tup, z_lst, z_dic, z_dcomp, z_fstr, z_efld, z_eisi, z_comp, z_Tcmp, z_Tchain, z_TisN, z_TnotN, z_Tand, z_Tor, z_Tnot, z_Ttv, z_nil, z_cons, z_Fnil, z_Fcons, z_Tsn, z_Ts1, z_rng1, int2Q_1, z_rng2, z_enm, z_zip, z_sq, z_Bnil, z_Bcons, z_asg, z_asgt, z_asg2, z_setf, z_seti, augQ_1, augQ_2, z_augn, z_augf, z_exp, z_ret, z_retN, z_if, z_for, z_whl, z_brk, z_cnt, z_pas, z_rais0, z_rais1, z_try, z_Hnil, z_Hcons, v_v0, v_vs, v_add, v_sub, v_mul, v_fdiv, v_mod, v_pow, v_sadd, v_tadd, v_ladd, v_lmul, v_int, v_intb, v_abs, v_max2, v_min2, v_stri, v_lens, v_lenm, v_len0, v_len1, v_len2, v_len3, v_len4, v_len5, v_len6, v_lenr, v_tupt, v_tupr, v_lstt, v_lstr, v_any, v_all, v_ixt, v_ixr, v_kon, v_seti, strQ_1, strQ_2, strQ_3, v_pts, v_ptn, v_sls, v_slt, v_slr, v_fld, v_setf, v_okl, v_oks, v_app, v_pop, v_lt, v_le, v_gt, v_ge, v_eq, v_ne, v_in, v_ni, v_eqii, v_eqss, v_eqbb, v_eqsi, v_eqis, v_eqni, v_eqin, v_eqns, v_eqsn, v_trn, v_trb, v_tri, v_trt, v_trr, v_trs, v_fms, v_fmi, v_inp, inrQ_1, inrQ_2, inrQ_3, v_inl, v_inK, v_ins, t_n, t_b, t_i, t_s, t_t, t_r, tyO_1, tyO_2, tyO_3, tyO_4, y_n, y_b, y_i, y_s, y_t, y_l, y_d, y_o, y_o1, y_o2, y_o3, y_o4, y_o5, y_o6, w_t, w_s, w_r, w_e, w_zs, w_zt, List.map_cons, List.map_nil, List.replicate_succ, List.replicate_zero, List.cons_append, List.nil_append, List.append_nil, List.set_cons_zero, List.set_cons_succ, List.any_cons, List.any_nil, List.lookup_cons_self, meT, reduceCtorEq, decide_true, decide_false, Bool.or_false, Bool.false_or, Bool.or_true, Bool.true_or, Bool.not_true, Bool.not_false, Bool.and_true, Bool.true_and, Bool.and_false, Bool.false_and, true_and, and_true, wipeE, Option.isSome_some, Option.isSome_none, List.getElem?_concat_length, Nat.reduceBEq, Int.reduceEq, Int.reduceLT, Int.reduceLE, Int.reduceNeg, glo_0, glo_1, glo_2, glo_3, glo_4, glo_5, glo_6, glo_7, glo_8, konn_0, konq_0_0, konq_0_1, konq_0_2, konq_0_3, konq_0_4, konq_0_5, konq_0_6, konq_0_7, alt_0, alt_1, alt_2, alt_3, alt_4, alt_5, alt_6, alt_7, alt_8, exf_0, exf_1, exf_2, exf_3, exf_4, exf_5, c_PastError, c_NoName, c_NoState, c_HasCoins, c_NoVault, c_NoRow, c_Body, c_Walk, c_Vault, d_size_row, d_choice_table, d_coined, d_used, d_trace, d_cells, d_result, d_begin, d_deed_row, d_coin_count, d_row_count, d_many_cells, d_body_table, d_coins, d_held, d_cell_row, d_part, d_index, $ls,*])
local macro_rules
  | `(tactic| simp!) => `(tactic| simp (implicitDefEqProofs := false) (dsimp := false) (failIfUnchanged := false) only [lz1, z_ifT, z_ifF, k_c0, k_c1, k_c2, k_c3, k_c4, k_c5, k_c6, k_few0, k_fewS, k_lkm, k_pf0, k_pfh, k_pfm, k_cls, k_clsO, ks_nx, ks_rt, ks_bk, ks_ct, ks_xc, kl_nx, kl_rt, kl_bk, kl_ct, kl_xc, kc_nx, kc_rt, kc_xc, kt_nx, kt_rt, kt_bk, kt_ct, kt_xc, kh_nx, kh_rt, un_n, un_s, isNon_1, isNon_2, isNon_3, isNon_4, isNon_5, isNon_6, isNon_7, boolQ_1, intQ_1, optQ_1, lstQ_1, sqQ_1, sqQ_2, cntQ_1, cntQ_2, cntQ_3, dicQ_1, insQ_1, getIx_0, getIx_1, getIx_2, getIx_3, getIx_4, getIx_5, ixrQ_1, ixrQ_2, ixrQ_3, ixrQ_4, setIx_0, setIx_1, setIx_2, bindQ_nm, bindL_0, bindL_1, bindQ_tp, z_var, z_con, z_glo, z_bin, z_neg, z_cmp, z_chain, z_isN, z_notN, z_and, z_or, z_not, z_ife, z_call, z_make, methQ_1, z_meth, z_fld, z_pr, z_me, z_isi, z_idx, z_sli, z_abs0, z_tup, z_lst, z_dic, z_dcomp, z_fstr, z_efld, z_eisi, z_comp, z_Tcmp, z_Tchain, z_TisN, z_TnotN, z_Tand, z_Tor, z_Tnot, z_Ttv, z_nil, z_cons, z_Fnil, z_Fcons, z_Tsn, z_Ts1, z_rng1, int2Q_1, z_rng2, z_enm, z_zip, z_sq, z_Bnil, z_Bcons, z_asg, z_asgt, z_asg2, z_setf, z_seti, augQ_1, augQ_2, z_augn, z_augf, z_exp, z_ret, z_retN, z_if, z_for, z_whl, z_brk, z_cnt, z_pas, z_rais0, z_rais1, z_try, z_Hnil, z_Hcons, v_v0, v_vs, v_add, v_sub, v_mul, v_fdiv, v_mod, v_pow, v_sadd, v_tadd, v_ladd, v_lmul, v_int, v_intb, v_abs, v_max2, v_min2, v_stri, v_lens, v_lenm, v_len0, v_len1, v_len2, v_len3, v_len4, v_len5, v_len6, v_lenr, v_tupt, v_tupr, v_lstt, v_lstr, v_any, v_all, v_ixt, v_ixr, v_kon, v_seti, strQ_1, strQ_2, strQ_3, v_pts, v_ptn, v_sls, v_slt, v_slr, v_fld, v_setf, v_okl, v_oks, v_app, v_pop, v_lt, v_le, v_gt, v_ge, v_eq, v_ne, v_in, v_ni, v_eqii, v_eqss, v_eqbb, v_eqsi, v_eqis, v_eqni, v_eqin, v_eqns, v_eqsn, v_trn, v_trb, v_tri, v_trt, v_trr, v_trs, v_fms, v_fmi, v_inp, inrQ_1, inrQ_2, inrQ_3, v_inl, v_inK, v_ins, t_n, t_b, t_i, t_s, t_t, t_r, tyO_1, tyO_2, tyO_3, tyO_4, y_n, y_b, y_i, y_s, y_t, y_l, y_d, y_o, y_o1, y_o2, y_o3, y_o4, y_o5, y_o6, w_t, w_s, w_r, w_e, w_zs, w_zt, List.map_cons, List.map_nil, List.replicate_succ, List.replicate_zero, List.cons_append, List.nil_append, List.append_nil, List.set_cons_zero, List.set_cons_succ, List.any_cons, List.any_nil, List.lookup_cons_self, meT, reduceCtorEq, decide_true, decide_false, Bool.or_false, Bool.false_or, Bool.or_true, Bool.true_or, Bool.not_true, Bool.not_false, Bool.and_true, Bool.true_and, Bool.and_false, Bool.false_and, true_and, and_true, wipeE, Option.isSome_some, Option.isSome_none, List.getElem?_concat_length, Nat.reduceBEq, Int.reduceEq, Int.reduceLT, Int.reduceLE, Int.reduceNeg, glo_0, glo_1, glo_2, glo_3, glo_4, glo_5, glo_6, glo_7, glo_8, konn_0, konq_0_0, konq_0_1, konq_0_2, konq_0_3, konq_0_4, konq_0_5, konq_0_6, konq_0_7, alt_0, alt_1, alt_2, alt_3, alt_4, alt_5, alt_6, alt_7, alt_8, exf_0, exf_1, exf_2, exf_3, exf_4, exf_5, c_PastError, c_NoName, c_NoState, c_HasCoins, c_NoVault, c_NoRow, c_Body, c_Walk, c_Vault, d_size_row, d_choice_table, d_coined, d_used, d_trace, d_cells, d_result, d_begin, d_deed_row, d_coin_count, d_row_count, d_many_cells, d_body_table, d_coins, d_held, d_cell_row, d_part, d_index])
inductive Rw where
  | read (r c : Nat) | set (c : Nat) (e : Ex) | swap (r c : Nat) (e f : Ex) | keep (r : Nat) (e : Ex) | coin (r : Nat) | ans (e : Ex)
  | ife (e : Ex) (a b : List Rw) | times (e : Ex) (a : List Rw)
abbrev wRead : List Nat := [114, 101, 97, 100]
abbrev wSet : List Nat := [115, 101, 116]
abbrev wSwap : List Nat := [115, 119, 97, 112]
abbrev wKeep : List Nat := [107, 101, 101, 112]
abbrev wCoin : List Nat := [99, 111, 105, 110]
abbrev wIf : List Nat := [105, 102]
abbrev wTimes : List Nat := [116, 105, 109, 101, 115]
abbrev wAns : List Nat := [97, 110, 115, 119, 101, 114]
mutual
def Rw.d : Rw → D
  | .read r c => .tup [.str wRead, .str [r], .int c]
  | .set c e => .tup [.str wSet, .int c, e.d]
  | .swap r c e f => .tup [.str wSwap, .str [r], .int c, e.d, f.d]
  | .keep r e => .tup [.str wKeep, .str [r], e.d]
  | .coin r => .tup [.str wCoin, .str [r]]
  | .ans e => .tup [.str wAns, e.d]
  | .ife e a b => .tup [.str wIf, e.d, .tup (Rw.ds a), .tup (Rw.ds b)]
  | .times e a => .tup [.str wTimes, e.d, .tup (Rw.ds a)]
def Rw.ds : List Rw → List D
  | [] => []
  | r :: rs => r.d :: Rw.ds rs
def Rw.size : Rw → Nat
  | .ife _ a b => 1 + Rw.sizes a + Rw.sizes b
  | .times _ a => 1 + Rw.sizes a
  | _ => 1
def Rw.sizes : List Rw → Nat
  | [] => 0
  | r :: rs => r.size + Rw.sizes rs
def Rw.coins : Rw → Nat
  | .coin _ => 1
  | .ife _ a b => Rw.coinss a + Rw.coinss b
  | .times _ a => Rw.coinss a
  | _ => 0
def Rw.coinss : List Rw → Nat
  | [] => 0
  | r :: rs => r.coins + Rw.coinss rs
def Rw.hasC : Rw → Bool
  | .coin _ => true
  | .ife _ a b => Rw.hasCs a || Rw.hasCs b
  | .times _ a => Rw.hasCs a
  | _ => false
def Rw.hasCs : List Rw → Bool
  | [] => false
  | r :: rs => r.hasC || Rw.hasCs rs
end
theorem ds_len : ∀ rs : List Rw, (Rw.ds rs).length = rs.length
  | [] => rfl
  | _ :: rs => by rw [Rw.ds, List.length_cons, List.length_cons, ds_len rs]
def keepers : List Nat := [97, 98, 99, 100]
theorem keepers_regs {r : Nat} (h : r ∈ keepers) : r ∈ regs := by
  simp only [keepers, List.mem_cons, List.not_mem_nil, or_false] at h
  rcases h with e | e | e | e <;> subst e <;> decide
theorem inKeepers : ∀ c ∈ keepers, inD (.str [c]) [.str [97], .str [98], .str [99], .str [100]] = true := by decide +kernel
def rowsOk : Nat → Nat → Nat → Nat → List Rw → Prop
  | 0, _, _, _, rows => rows = []
  | h + 1, many, depth, loops, rows => (rows ≠ [] → depth ≤ 12) ∧ ∀ r ∈ rows, match r with
    | .read r c => r ∈ keepers ∧ c < many
    | .set c e => c < many ∧ e.ok 6
    | .swap r c e f => r ∈ keepers ∧ c < many ∧ e.ok 6 ∧ f.ok 6
    | .keep r e => r ∈ keepers ∧ e.ok 6
    | .coin r => r ∈ keepers ∧ loops = 0
    | .ans e => e.ok 6
    | .ife e a b => e.ok 6 ∧ rowsOk h many (depth + 1) loops a ∧ rowsOk h many (depth + 1) loops b
    | .times e a => loops < 2 ∧ e.ok 6 ∧ rowsOk h many (depth + 1) (loops + 1) a
def rowOk (h many depth loops : Nat) (r : Rw) : Prop := match r with
    | .read r c => r ∈ keepers ∧ c < many
    | .set c e => c < many ∧ e.ok 6
    | .swap r c e f => r ∈ keepers ∧ c < many ∧ e.ok 6 ∧ f.ok 6
    | .keep r e => r ∈ keepers ∧ e.ok 6
    | .coin r => r ∈ keepers ∧ loops = 0
    | .ans e => e.ok 6
    | .ife e a b => e.ok 6 ∧ rowsOk h many (depth + 1) loops a ∧ rowsOk h many (depth + 1) loops b
    | .times e a => loops < 2 ∧ e.ok 6 ∧ rowsOk h many (depth + 1) (loops + 1) a
theorem rowsOk_row {h many depth loops : Nat} {rows : List Rw} (ok : rowsOk (h + 1) many depth loops rows) {r : Rw} (m : r ∈ rows) : rowOk h many depth loops r := ok.2 r m
def bodyO (many : Nat) (rc cc : Int) : O := .ins c_Body [(d_many_cells, .int many), (d_row_count, .int rc), (d_coin_count, .int cc)]
theorem zw_nil {f : D → D → D} {b : List D} : List.zipWith f [] b = [] := rfl
theorem zw_cons {f : D → D → D} {a b : D} {as bs : List D} : List.zipWith f (a :: as) (b :: bs) = f a b :: List.zipWith f as bs := rfl
theorem cut1 {a : D} {r : List D} : cutL (a :: r) (some 1) none = r := by
  unfold cutL
  have e1 : cutIx (a :: r).length 0 (some 1) = 1 := by
    simp [cutIx, HT.sIx]
  have e2 : cutIx (a :: r).length (a :: r).length none = (a :: r).length := by
    simp [cutIx, HT.sIx]
  rw [e1, e2]
  simp
theorem for_nil {tg : Tg} {body : Env → Store → K → Prop} {k : K} {ds : List D} {i n : Nat} {env : Env} {st : Store} (e : ds[i]? = none) (h : k.nx env st) : forN (.seq ds) tg body k (n + 1) i env st := by
  unfold forN
  show (match (some ds[i]? : Option (Option D)) with
    | none => False
    | some none => k.nx env st
    | some (some d) => _)
  rw [e]
  exact h
theorem for_tp2 {a b : Nat} {body : Env → Store → K → Prop} {k : K} {env : Env} {st : Store} {ps : List (D × D)} (P : List (D × D) → Env → Store → Prop) (start : P ps env st)
    (turn : ∀ (x y : D) (r : List (D × D)) (env : Env) (st : Store) (N : Env → Store → Prop), P ((x, y) :: r) env st → (∀ e s, P r e s → N e s) → body ((env.set a (some x)).set b (some y)) st (kl N k .mk))
    (done : ∀ env st, P [] env st → k.nx env st) : ∃ n, forN (.seq (ps.map fun p => .tup [p.1, p.2])) (.tp [a, b]) body k n 0 env st := by
  refine for_i (ps.length) (fun i env st => P (ps.drop i) env st) start (fun i env st N hi iv hN => ?_) (fun env st iv => ⟨?_, ?_⟩)
  · have hd : ps.drop i = ps[i] :: ps.drop (i + 1) := List.drop_eq_getElem_cons hi
    rw [hd] at iv
    rw [at_s, List.getElem?_map, List.getElem?_eq_getElem hi]
    simp only [Option.map_some, optQ_1, lz1, bindQ_tp, bindL_1, bindL_0]
    exact turn _ _ _ _ _ _ iv hN
  · rw [at_s, List.getElem?_eq_none (by simp)]
  · rw [List.drop_length] at iv
    exact done _ _ iv
section
variable {b many : Nat}
def partOk (h depth loops : Nat) (sort : Nat) (d : D) (n c : Nat) : Prop :=
  (sort = 82 ∧ n = 0 ∧ c = 0 ∧ ∃ r, d = .str [r] ∧ r ∈ keepers) ∨ (sort = 67 ∧ n = 0 ∧ c = 0 ∧ ∃ i : Nat, d = .int i ∧ i < many) ∨ (sort = 69 ∧ n = 0 ∧ c = 0 ∧ ∃ e : Ex, d = e.d ∧ e.ok 6) ∨
    (sort = 66 ∧ ∃ rows, d = .tup (Rw.ds rows) ∧ rowsOk h many (depth + 1) loops rows ∧ n = Rw.sizes rows ∧ c = Rw.coinss rows)
theorem goodpart {h k depth loops sort n c : Nat} {d : D} {rc cc : Int} {dp lp : Int} {st : Store} {Q : QE} {X : QX} (hd : dp = depth) (hl : lp = loops) (p : partOk (many := many) h depth loops sort d n c) (eb : st[b]? = some (bodyO many rc cc))
    (ih : ∀ (rows : List Rw) (st : Store) (Q : QE) (X : QX) (dp lp : Int), dp = depth + 1 → lp = loops → rowsOk h many (depth + 1) loops rows → st[b]? = some (bodyO many rc cc) → rc + Rw.sizes rows ≤ 2000 → cc + Rw.coinss rows ≤ 4 →
      Q (.bl true) (st.set b (bodyO many (rc + Rw.sizes rows) (cc + Rw.coinss rows))) → Call T (k + 8) n_Body_good_rows [.ref b, .tup (Rw.ds rows), .int dp, .int lp] st Q X)
    (h1 : rc + n ≤ 2000) (h2 : cc + c ≤ 4) (hq : Q (.bl true) (st.set b (bodyO many (rc + n) (cc + c)))) : Call T (k + 9) n_Body_good_part [.ref b, .str [sort], d, .int dp, .int lp] st Q X := by
  refine call_z f_Body_good_part.fn rfl rfl ?_
  show wpB T (Call T (k + 8)) none b_Body_good_part [some (.ref b), some (.str [sort]), some d, some (.int dp), some (.int lp)] st _
  unfold b_Body_good_part
  have same : st.set b (bodyO many rc cc) = st := by
    refine List.ext_getElem? fun i => ?_
    by_cases e : i = b
    · subst e; rw [set_get eb, eb]
    · rw [List.getElem?_set_ne (Ne.symm e)]
  rcases p with ⟨rfl, rfl, rfl, r, rfl, hr⟩ | ⟨rfl, rfl, rfl, i, rfl, hi⟩ | ⟨rfl, rfl, rfl, e, rfl, he⟩ | ⟨rfl, rows, rfl, ho, rfl, rfl⟩
  · have t : decide (([82] : List Nat) = [82]) = true := by decide
    simp only [Int.natCast_zero, Int.add_zero, same] at hq
    simp! [t]
    refine ⟨rfl, rfl, ?_⟩
    simp! [inKeepers r hr]
    exact hq
  · have t : decide (([67] : List Nat) = [82]) = false := by decide
    have t2 : decide (([67] : List Nat) = [67]) = true := by decide
    have t3 : decide (0 ≤ (i : Int)) = true := decide_eq_true (by omega)
    have t4 : decide ((i : Int) < (many : Int)) = true := decide_eq_true (by omega)
    simp only [Int.natCast_zero, Int.add_zero, same] at hq
    simp! [t, t2]
    refine isint ?_
    simp! [t3, eb, bodyO, t4]
    exact hq
  · have t : decide (([69] : List Nat) = [82]) = false := by decide
    have t2 : decide (([69] : List Nat) = [67]) = false := by decide
    have t3 : decide (([69] : List Nat) = [69]) = true := by decide
    simp only [Int.natCast_zero, Int.add_zero, same] at hq
    simp! [t, t2, t3]
    refine isexpr 6 e he k 6 st _ X rfl ?_
    simp!
    exact hq
  · have t : decide (([66] : List Nat) = [82]) = false := by decide
    have t2 : decide (([66] : List Nat) = [67]) = false := by decide
    have t3 : decide (([66] : List Nat) = [69]) = false := by decide
    simp! [t, t2, t3, eb, bodyO]
    refine ih rows _ _ _ _ _ (by omega) hl ho eb h1 h2 ?_
    simp!
    exact hq
structure Pt where
  sort : Nat
  d : D
  n : Nat
  c : Nat
def sumN : List Pt → Nat
  | [] => 0
  | p :: ps => p.n + sumN ps
def sumC : List Pt → Nat
  | [] => 0
  | p :: ps => p.c + sumC ps
theorem zip_parts : ∀ ps : List Pt, List.zipWith (fun u v => D.tup [u, v]) ((ps.map (·.sort)).map fun c => D.str [c]) (ps.map (·.d)) = (ps.map fun p => (D.str [p.sort], p.d)).map fun p => D.tup [p.1, p.2]
  | [] => rfl
  | p :: ps => by
    rw [List.map_cons, List.map_cons, List.map_cons, zw_cons, zip_parts ps]
    rfl
theorem set_set {st : Store} {o o' : O} : (st.set b o).set b o' = st.set b o' := List.set_set ..
theorem goodrow {h k depth loops loops' : Nat} {w : List Nat} {parts : List Pt} {rc cc cc' : Int} {dp lp : Int} {st : Store} {Q : QE} {X : QX} (hw : getC (T.kon 0) (.str w) = some (.str (parts.map (·.sort)))) (hd : dp = depth) (hl : lp = loops)
    (ht : w = wTimes ∧ loops' = loops + 1 ∨ w ≠ wTimes ∧ loops' = loops) (hl2 : loops' ≤ 2) (hc : w = wCoin ∧ cc' = cc + 1 ∧ loops' = 0 ∨ w ≠ wCoin ∧ cc' = cc)
    (hp : ∀ p ∈ parts, partOk (many := many) h depth loops' p.sort p.d p.n p.c) (eb : st[b]? = some (bodyO many rc cc)) (lw : w.length ≤ 100) (lpt : parts.length ≤ 100)
    (ih : ∀ (rows : List Rw) (st : Store) (Q : QE) (X : QX) (dp lp rc cc : Int), dp = depth + 1 → lp = loops' → rowsOk h many (depth + 1) loops' rows → st[b]? = some (bodyO many rc cc) → rc + Rw.sizes rows ≤ 2000 → cc + Rw.coinss rows ≤ 4 →
      Q (.bl true) (st.set b (bodyO many (rc + Rw.sizes rows) (cc + Rw.coinss rows))) → Call T (k + 8) n_Body_good_rows [.ref b, .tup (Rw.ds rows), .int dp, .int lp] st Q X)
    (h1 : rc + sumN parts ≤ 2000) (h2 : cc' + sumC parts ≤ 4) (hq : Q (.bl true) (st.set b (bodyO many (rc + sumN parts) (cc' + sumC parts)))) : Call T (k + 10) n_Body_good_row [.ref b, .tup (.str w :: parts.map (·.d)), .int dp, .int lp] st Q X := by
  refine call_z f_Body_good_row.fn rfl rfl ?_
  show wpB T (Call T (k + 9)) none b_Body_good_row [some (.ref b), some (.tup (.str w :: parts.map (·.d))), some (.int dp), some (.int lp), none, none] st _
  unfold b_Body_good_row
  have g1 : ∀ o : O, (st.set b o)[b]? = some o := fun o => set_get eb
  have l0 : decide (((D.str w :: parts.map (·.d)).length : Int) = 0) = false := decide_eq_false (by simp; omega)
  have l1 : decide (((D.str w :: parts.map (·.d)).length : Int) = ((parts.map (·.sort)).length : Int) + 1) = true := decide_eq_true (by simp)
  have lf : (parts.map (·.sort)).length ≤ line := le_line (by simp; omega)
  have kn : (T.kon 0 ≠ []) = True := konn_0
  -- the loop over the parts
  have loop : ∀ (C0 : Int), cc' = C0 → ∀ {hb : b < st.length}, ∃ n, forN (.seq ((parts.map fun p => (D.str [p.sort], p.d)).map fun p => D.tup [p.1, p.2])) (.tp [4, 5]) (lz (fun e s k' => wpB T (Call T (k + 9)) none (.cons (.ifS (.not (.tv (.meth [(c_Body, n_Body_good_part)] (.var 0) (.cons (.var 4) (.cons (.var 5) (.cons (.var 2) (.cons (.var 3) .nil))))))) (.cons (.ret (.con (.bl false))) .nil) .nil) .nil) e s k') .mk)
      (ks T (Call T (k + 9)) none (.cons (.ret (.con (.bl true))) .nil) (kc Q X .mk .mk) .mk) n 0 [some (.ref b), some (.tup (.str w :: parts.map (·.d))), some (.int dp), some (.int (loops' : Int)), none, none] (st.set b (bodyO many rc C0)) := fun C0 e0 {hb} => by
    subst e0
    refine for_tp2 (fun r env s => ∃ (rest : List Pt) (rc1 cc1 : Int) (o1 o2 : Option D), r = rest.map (fun p => (D.str [p.sort], p.d)) ∧ (∀ p ∈ rest, p ∈ parts) ∧ rc1 + sumN rest = rc + sumN parts ∧ cc1 + sumC rest = cc' + sumC parts ∧ s = st.set b (bodyO many rc1 cc1) ∧ env = [some (.ref b), some (.tup (.str w :: parts.map (·.d))), some (.int dp), some (.int (loops' : Int)), o1, o2]) ⟨parts, rc, cc', none, none, rfl, fun _ m => m, rfl, rfl, rfl, rfl⟩ (fun x y r env s N ⟨rest, rc1, cc1, o1, o2, e1, e2, e3, e4, e5, e6⟩ hN => ?_) (fun env s ⟨rest, rc1, cc1, o1, o2, e1, e2, e3, e4, e5, e6⟩ => ?_)
    · subst e5 e6
      cases rest with
      | nil => cases e1
      | cons p rest =>
        cases e1
        simp only [sumN, sumC] at e3 e4
        simp! [g1, bodyO]
        refine goodpart hd rfl (hp p (e2 p List.mem_cons_self)) (g1 _) (fun rows s' Q' X' dp' lp' a1 a2 a3 a4 a5 a6 a7 => ih rows s' Q' X' dp' lp' _ _ a1 a2 a3 a4 a5 a6 a7) (by omega) (by omega) ?_
        simp!
        exact hN _ _ ⟨rest, rc1 + p.n, cc1 + p.c, _, _, rfl, fun q m => e2 q (List.mem_cons_of_mem _ m), by omega, by omega, set_set, rfl⟩
    · subst e5 e6
      cases rest with
      | cons p rest => cases e1
      | nil =>
        simp only [sumN, sumC, Int.natCast_zero, Int.add_zero] at e3 e4
        simp!
        rw [e3, e4]
        exact hq
  have lb := lt_of_get eb
  have eb' := eb
  unfold bodyO at eb'
  have same : st.set b (bodyO many rc cc) = st := by
    refine List.ext_getElem? fun i => ?_
    by_cases e : i = b
    · subst e; rw [set_get eb, eb]
    · rw [List.getElem?_set_ne (Ne.symm e)]
  have t0 : decide ((loops' : Int) > 2) = false := decide_eq_false (by omega)
  have t0' : decide (2 < (loops' : Int)) = false := decide_eq_false (by omega)
  subst hl
  rcases ht with ⟨ew, rfl⟩ | ⟨nt, rfl⟩
  · have cn : w ≠ wCoin := by rw [ew]; decide
    have hcc : cc' = cc := by
      rcases hc with ⟨e, _⟩ | ⟨_, e⟩
      · exact absurd e cn
      · exact e
    have d1 : decide (w = ([99, 111, 105, 110] : List Nat)) = false := decide_eq_false cn
    have d2 : decide (w = ([116, 105, 109, 101, 115] : List Nat)) = true := decide_eq_true ew
    have t1 : decide (2 < (loops : Int) + 1) = false := decide_eq_false (by omega)
    simp! [l0, kn, hw, v_lent, lf, l1, d1, d2, t1, cut1, zip_parts]
    have q := loop cc hcc (hb := lb)
    rw [same] at q
    exact q
  · have d2 : decide (w = ([116, 105, 109, 101, 115] : List Nat)) = false := decide_eq_false nt
    rcases hc with ⟨ew, hcc, hl0⟩ | ⟨nc, hcc⟩
    · have d1 : decide (w = ([99, 111, 105, 110] : List Nat)) = true := decide_eq_true ew
      have t1 : decide (2 < ((0 : Nat) : Int)) = false := by decide
      have t2 : decide (0 < ((0 : Nat) : Int)) = false := by decide
      have t3 : decide (4 < cc + 1) = false := decide_eq_false (by omega)
      subst hl0
      simp! [l0, kn, hw, v_lent, lf, l1, d2]
      simp! [d1, eb', g1, t2, t3, t1, cut1, zip_parts, hw]
      have q := loop (cc + 1) hcc (hb := lb)
      exact q
    · have d1 : decide (w = ([99, 111, 105, 110] : List Nat)) = false := decide_eq_false nc
      simp! [l0, kn, hw, v_lent, lf, l1, d1, d2, t0', cut1, zip_parts]
      have q := loop cc hcc (hb := lb)
      rw [same] at q
      exact q
end
end Y.K_k12
set_option linter.all false
set_option maxHeartbeats 4000000
set_option maxRecDepth 100000
namespace Y.K_k12
open Y PySem
local macro_rules
  | `(tactic| simp! [$ls,*]) => `(tactic| simp (implicitDefEqProofs := false) (dsimp := false) (failIfUnchanged := false) only [lz1, z_ifT, z_ifF, k_c0, k_c1, k_c2, k_c3, k_c4, k_c5, k_c6, k_few0, k_fewS, k_lkm, k_pf0, k_pfh, k_pfm, k_cls, k_clsO, ks_nx, ks_rt, ks_bk, ks_ct, ks_xc, kl_nx, kl_rt, kl_bk, kl_ct, kl_xc, kc_nx, kc_rt, kc_xc, kt_nx, kt_rt, kt_bk, kt_ct, kt_xc, kh_nx, kh_rt, un_n, un_s, isNon_1, isNon_2, isNon_3, isNon_4, isNon_5, isNon_6, isNon_7, boolQ_1, intQ_1, optQ_1, lstQ_1, sqQ_1, sqQ_2, cntQ_1, cntQ_2, cntQ_3, dicQ_1, insQ_1, getIx_0, getIx_1, getIx_2, getIx_3, getIx_4, getIx_5, ixrQ_1, ixrQ_2, ixrQ_3, ixrQ_4, setIx_0, setIx_1, setIx_2, bindQ_nm, bindL_0, bindL_1, bindQ_tp, z_var, z_con, z_glo, z_bin, z_neg, z_cmp, z_chain, z_isN, z_notN, z_and, z_or, z_not, z_ife, z_call, z_make, methQ_1, z_meth, z_fld, z_pr, z_me, z_isi, z_idx, z_sli, z_abs0, z_tup, z_lst, z_dic, z_dcomp, z_fstr, z_efld, z_eisi, z_comp, z_Tcmp, z_Tchain, z_TisN, z_TnotN, z_Tand, z_Tor, z_Tnot, z_Ttv, z_nil, z_cons, z_Fnil, z_Fcons, z_Tsn, z_Ts1, z_rng1, int2Q_1, z_rng2, z_enm, z_zip, z_sq, z_Bnil, z_Bcons, z_asg, z_asgt, z_asg2, z_setf, z_seti, augQ_1, augQ_2, z_augn, z_augf, z_exp, z_ret, z_retN, z_if, z_for, z_whl, z_brk, z_cnt, z_pas, z_rais0, z_rais1, z_try, z_Hnil, z_Hcons, v_v0, v_vs, v_add, v_sub, v_mul, v_fdiv, v_mod, v_pow, v_sadd, v_tadd, v_ladd, v_lmul, v_int, v_intb, v_abs, v_max2, v_min2, v_stri, v_lens, v_lenm, v_len0, v_len1, v_len2, v_len3, v_len4, v_len5, v_len6, v_lenr, v_tupt, v_tupr, v_lstt, v_lstr, v_any, v_all, v_ixt, v_ixr, v_kon, v_seti, strQ_1, strQ_2, strQ_3, v_pts, v_ptn, v_sls, v_slt, v_slr, v_fld, v_setf, v_okl, v_oks, v_app, v_pop, v_lt, v_le, v_gt, v_ge, v_eq, v_ne, v_in, v_ni, v_eqii, v_eqss, v_eqbb, v_eqsi, v_eqis, v_eqni, v_eqin, v_eqns, v_eqsn, v_trn, v_trb, v_tri, v_trt, v_trr, v_trs, v_fms, v_fmi, v_inp, inrQ_1, inrQ_2, inrQ_3, v_inl, v_inK, v_ins, t_n, t_b, t_i, t_s, t_t, t_r, tyO_1, tyO_2, tyO_3, tyO_4, y_n, y_b, y_i, y_s, y_t, y_l, y_d, y_o, y_o1, y_o2, y_o3, y_o4, y_o5, y_o6, w_t, w_s, w_r, w_e, w_zs, w_zt, List.map_cons, List.map_nil, List.replicate_succ, List.replicate_zero, List.cons_append, List.nil_append, List.append_nil, List.set_cons_zero, List.set_cons_succ, List.any_cons, List.any_nil, List.lookup_cons_self, meT, reduceCtorEq, decide_true, decide_false, Bool.or_false, Bool.false_or, Bool.or_true, Bool.true_or, Bool.not_true, Bool.not_false, Bool.and_true, Bool.true_and, Bool.and_false, Bool.false_and, true_and, and_true, wipeE, Option.isSome_some, Option.isSome_none, List.getElem?_concat_length, Nat.reduceBEq, Int.reduceEq, Int.reduceLT, Int.reduceLE, Int.reduceNeg, glo_0, glo_1, glo_2, glo_3, glo_4, glo_5, glo_6, glo_7, glo_8, konn_0, konq_0_0, konq_0_1, konq_0_2, konq_0_3, konq_0_4, konq_0_5, konq_0_6, konq_0_7, alt_0, alt_1, alt_2, alt_3, alt_4, alt_5, alt_6, alt_7, alt_8, exf_0, exf_1, exf_2, exf_3, exf_4, exf_5, c_PastError, c_NoName, c_NoState, c_HasCoins, c_NoVault, c_NoRow, c_Body, c_Walk, c_Vault, d_size_row, d_choice_table, d_coined, d_used, d_trace, d_cells, d_result, d_begin, d_deed_row, d_coin_count, d_row_count, d_many_cells, d_body_table, d_coins, d_held, d_cell_row, d_part, d_index, $ls,*])
local macro_rules
  | `(tactic| simp!) => `(tactic| simp (implicitDefEqProofs := false) (dsimp := false) (failIfUnchanged := false) only [lz1, z_ifT, z_ifF, k_c0, k_c1, k_c2, k_c3, k_c4, k_c5, k_c6, k_few0, k_fewS, k_lkm, k_pf0, k_pfh, k_pfm, k_cls, k_clsO, ks_nx, ks_rt, ks_bk, ks_ct, ks_xc, kl_nx, kl_rt, kl_bk, kl_ct, kl_xc, kc_nx, kc_rt, kc_xc, kt_nx, kt_rt, kt_bk, kt_ct, kt_xc, kh_nx, kh_rt, un_n, un_s, isNon_1, isNon_2, isNon_3, isNon_4, isNon_5, isNon_6, isNon_7, boolQ_1, intQ_1, optQ_1, lstQ_1, sqQ_1, sqQ_2, cntQ_1, cntQ_2, cntQ_3, dicQ_1, insQ_1, getIx_0, getIx_1, getIx_2, getIx_3, getIx_4, getIx_5, ixrQ_1, ixrQ_2, ixrQ_3, ixrQ_4, setIx_0, setIx_1, setIx_2, bindQ_nm, bindL_0, bindL_1, bindQ_tp, z_var, z_con, z_glo, z_bin, z_neg, z_cmp, z_chain, z_isN, z_notN, z_and, z_or, z_not, z_ife, z_call, z_make, methQ_1, z_meth, z_fld, z_pr, z_me, z_isi, z_idx, z_sli, z_abs0, z_tup, z_lst, z_dic, z_dcomp, z_fstr, z_efld, z_eisi, z_comp, z_Tcmp, z_Tchain, z_TisN, z_TnotN, z_Tand, z_Tor, z_Tnot, z_Ttv, z_nil, z_cons, z_Fnil, z_Fcons, z_Tsn, z_Ts1, z_rng1, int2Q_1, z_rng2, z_enm, z_zip, z_sq, z_Bnil, z_Bcons, z_asg, z_asgt, z_asg2, z_setf, z_seti, augQ_1, augQ_2, z_augn, z_augf, z_exp, z_ret, z_retN, z_if, z_for, z_whl, z_brk, z_cnt, z_pas, z_rais0, z_rais1, z_try, z_Hnil, z_Hcons, v_v0, v_vs, v_add, v_sub, v_mul, v_fdiv, v_mod, v_pow, v_sadd, v_tadd, v_ladd, v_lmul, v_int, v_intb, v_abs, v_max2, v_min2, v_stri, v_lens, v_lenm, v_len0, v_len1, v_len2, v_len3, v_len4, v_len5, v_len6, v_lenr, v_tupt, v_tupr, v_lstt, v_lstr, v_any, v_all, v_ixt, v_ixr, v_kon, v_seti, strQ_1, strQ_2, strQ_3, v_pts, v_ptn, v_sls, v_slt, v_slr, v_fld, v_setf, v_okl, v_oks, v_app, v_pop, v_lt, v_le, v_gt, v_ge, v_eq, v_ne, v_in, v_ni, v_eqii, v_eqss, v_eqbb, v_eqsi, v_eqis, v_eqni, v_eqin, v_eqns, v_eqsn, v_trn, v_trb, v_tri, v_trt, v_trr, v_trs, v_fms, v_fmi, v_inp, inrQ_1, inrQ_2, inrQ_3, v_inl, v_inK, v_ins, t_n, t_b, t_i, t_s, t_t, t_r, tyO_1, tyO_2, tyO_3, tyO_4, y_n, y_b, y_i, y_s, y_t, y_l, y_d, y_o, y_o1, y_o2, y_o3, y_o4, y_o5, y_o6, w_t, w_s, w_r, w_e, w_zs, w_zt, List.map_cons, List.map_nil, List.replicate_succ, List.replicate_zero, List.cons_append, List.nil_append, List.append_nil, List.set_cons_zero, List.set_cons_succ, List.any_cons, List.any_nil, List.lookup_cons_self, meT, reduceCtorEq, decide_true, decide_false, Bool.or_false, Bool.false_or, Bool.or_true, Bool.true_or, Bool.not_true, Bool.not_false, Bool.and_true, Bool.true_and, Bool.and_false, Bool.false_and, true_and, and_true, wipeE, Option.isSome_some, Option.isSome_none, List.getElem?_concat_length, Nat.reduceBEq, Int.reduceEq, Int.reduceLT, Int.reduceLE, Int.reduceNeg, glo_0, glo_1, glo_2, glo_3, glo_4, glo_5, glo_6, glo_7, glo_8, konn_0, konq_0_0, konq_0_1, konq_0_2, konq_0_3, konq_0_4, konq_0_5, konq_0_6, konq_0_7, alt_0, alt_1, alt_2, alt_3, alt_4, alt_5, alt_6, alt_7, alt_8, exf_0, exf_1, exf_2, exf_3, exf_4, exf_5, c_PastError, c_NoName, c_NoState, c_HasCoins, c_NoVault, c_NoRow, c_Body, c_Walk, c_Vault, d_size_row, d_choice_table, d_coined, d_used, d_trace, d_cells, d_result, d_begin, d_deed_row, d_coin_count, d_row_count, d_many_cells, d_body_table, d_coins, d_held, d_cell_row, d_part, d_index])
def Rw.w : Rw → List Nat
  | .read _ _ => wRead | .set _ _ => wSet | .swap _ _ _ _ => wSwap | .keep _ _ => wKeep | .coin _ => wCoin | .ans _ => wAns | .ife _ _ _ => wIf | .times _ _ => wTimes
def Rw.pts : Rw → List Pt
  | .read r c => [⟨82, .str [r], 0, 0⟩, ⟨67, .int c, 0, 0⟩]
  | .set c e => [⟨67, .int c, 0, 0⟩, ⟨69, e.d, 0, 0⟩]
  | .swap r c e f => [⟨82, .str [r], 0, 0⟩, ⟨67, .int c, 0, 0⟩, ⟨69, e.d, 0, 0⟩, ⟨69, f.d, 0, 0⟩]
  | .keep r e => [⟨82, .str [r], 0, 0⟩, ⟨69, e.d, 0, 0⟩]
  | .coin r => [⟨82, .str [r], 0, 0⟩]
  | .ans e => [⟨69, e.d, 0, 0⟩]
  | .ife e a b => [⟨69, e.d, 0, 0⟩, ⟨66, .tup (Rw.ds a), Rw.sizes a, Rw.coinss a⟩, ⟨66, .tup (Rw.ds b), Rw.sizes b, Rw.coinss b⟩]
  | .times e a => [⟨69, e.d, 0, 0⟩, ⟨66, .tup (Rw.ds a), Rw.sizes a, Rw.coinss a⟩]
theorem Rw.d_eq (r : Rw) : r.d = .tup (.str r.w :: r.pts.map (·.d)) := by cases r <;> rfl
theorem Rw.kon (r : Rw) : getC (T.kon 0) (.str r.w) = some (.str (r.pts.map (·.sort))) := by
  cases r
  · exact konq_0_0
  · exact konq_0_1
  · exact konq_0_2
  · exact konq_0_3
  · exact konq_0_4
  · exact konq_0_7
  · exact konq_0_5
  · exact konq_0_6
theorem Rw.wlen (r : Rw) : r.w.length ≤ 100 ∧ r.pts.length ≤ 100 := by cases r <;> simp [Rw.w, Rw.pts]
theorem Rw.sumN (r : Rw) : r.size = 1 + K_k12.sumN r.pts := by cases r <;> simp [Rw.size, Rw.pts, K_k12.sumN] <;> omega
theorem Rw.sumC (r : Rw) : r.coins = (if r.w = wCoin then 1 else 0) + K_k12.sumC r.pts := by cases r <;> simp [Rw.coins, Rw.pts, K_k12.sumC, Rw.w, wRead, wSet, wSwap, wKeep, wCoin, wAns, wIf, wTimes]
theorem Rw.lp (r : Rw) {h many depth loops : Nat} (ok : rowOk h many depth loops r) (l2 : loops ≤ 2) : ∃ loops', (r.w = wTimes ∧ loops' = loops + 1 ∨ r.w ≠ wTimes ∧ loops' = loops) ∧ loops' ≤ 2 ∧ (r.w = wCoin → loops' = 0) ∧ ∀ p ∈ r.pts, partOk (many := many) h depth loops' p.sort p.d p.n p.c := by
  cases r with
  | read r c =>
    refine ⟨loops, .inr ⟨by simp [Rw.w], rfl⟩, l2, fun e => absurd e (by simp [Rw.w]), fun p hp => ?_⟩
    simp only [Rw.pts, List.mem_cons, List.not_mem_nil, or_false] at hp
    rcases hp with rfl | rfl
    · exact .inl ⟨rfl, rfl, rfl, r, rfl, ok.1⟩
    · exact .inr (.inl ⟨rfl, rfl, rfl, c, rfl, ok.2⟩)
  | set c e =>
    refine ⟨loops, .inr ⟨by simp [Rw.w], rfl⟩, l2, fun e => absurd e (by simp [Rw.w]), fun p hp => ?_⟩
    simp only [Rw.pts, List.mem_cons, List.not_mem_nil, or_false] at hp
    rcases hp with rfl | rfl
    · exact .inr (.inl ⟨rfl, rfl, rfl, c, rfl, ok.1⟩)
    · exact .inr (.inr (.inl ⟨rfl, rfl, rfl, e, rfl, ok.2⟩))
  | swap r c e f =>
    refine ⟨loops, .inr ⟨by simp [Rw.w], rfl⟩, l2, fun e => absurd e (by simp [Rw.w]), fun p hp => ?_⟩
    simp only [Rw.pts, List.mem_cons, List.not_mem_nil, or_false] at hp
    rcases hp with rfl | rfl | rfl | rfl
    · exact .inl ⟨rfl, rfl, rfl, r, rfl, ok.1⟩
    · exact .inr (.inl ⟨rfl, rfl, rfl, c, rfl, ok.2.1⟩)
    · exact .inr (.inr (.inl ⟨rfl, rfl, rfl, e, rfl, ok.2.2.1⟩))
    · exact .inr (.inr (.inl ⟨rfl, rfl, rfl, f, rfl, ok.2.2.2⟩))
  | keep r e =>
    refine ⟨loops, .inr ⟨by simp [Rw.w], rfl⟩, l2, fun e => absurd e (by simp [Rw.w]), fun p hp => ?_⟩
    simp only [Rw.pts, List.mem_cons, List.not_mem_nil, or_false] at hp
    rcases hp with rfl | rfl
    · exact .inl ⟨rfl, rfl, rfl, r, rfl, ok.1⟩
    · exact .inr (.inr (.inl ⟨rfl, rfl, rfl, e, rfl, ok.2⟩))
  | coin r =>
    refine ⟨loops, .inr ⟨by simp [Rw.w], rfl⟩, l2, fun _ => ok.2, fun p hp => ?_⟩
    simp only [Rw.pts, List.mem_cons, List.not_mem_nil, or_false] at hp
    subst hp
    exact .inl ⟨rfl, rfl, rfl, r, rfl, ok.1⟩
  | ans e =>
    refine ⟨loops, .inr ⟨by simp [Rw.w], rfl⟩, l2, fun e => absurd e (by simp [Rw.w]), fun p hp => ?_⟩
    simp only [Rw.pts, List.mem_cons, List.not_mem_nil, or_false] at hp
    subst hp
    exact .inr (.inr (.inl ⟨rfl, rfl, rfl, e, rfl, ok⟩))
  | ife e a b =>
    refine ⟨loops, .inr ⟨by simp [Rw.w], rfl⟩, l2, fun e => absurd e (by simp [Rw.w]), fun p hp => ?_⟩
    simp only [Rw.pts, List.mem_cons, List.not_mem_nil, or_false] at hp
    rcases hp with rfl | rfl | rfl
    · exact .inr (.inr (.inl ⟨rfl, rfl, rfl, e, rfl, ok.1⟩))
    · exact .inr (.inr (.inr ⟨rfl, a, rfl, ok.2.1, rfl, rfl⟩))
    · exact .inr (.inr (.inr ⟨rfl, b, rfl, ok.2.2, rfl, rfl⟩))
  | times e a =>
    have := ok.1
    refine ⟨loops + 1, .inl ⟨rfl, rfl⟩, by omega, fun e => absurd e (by simp [Rw.w]), fun p hp => ?_⟩
    simp only [Rw.pts, List.mem_cons, List.not_mem_nil, or_false] at hp
    rcases hp with rfl | rfl
    · exact .inr (.inr (.inl ⟨rfl, rfl, rfl, e, rfl, ok.2.1⟩))
    · exact .inr (.inr (.inr ⟨rfl, a, rfl, ok.2.2, rfl, rfl⟩))
section
variable {b many : Nat}
theorem goodrows : ∀ (h : Nat) {k depth loops : Nat} {rows : List Rw} {rc cc : Int} {dp lp : Int} {st : Store} {Q : QE} {X : QX}, dp = depth → lp = loops → loops ≤ 2 → rowsOk h many depth loops rows → st[b]? = some (bodyO many rc cc) → rc + Rw.sizes rows ≤ 2000 → cc + Rw.coinss rows ≤ 4 →
    Q (.bl true) (st.set b (bodyO many (rc + Rw.sizes rows) (cc + Rw.coinss rows))) → Call T (k + 3 * h + 8) n_Body_good_rows [.ref b, .tup (Rw.ds rows), .int dp, .int lp] st Q X := by
  intro h
  induction h with
  | zero =>
    intro k depth loops rows rc cc dp lp st Q X hd hl l2 ok eb h1 h2 hq
    rw [show rows = [] from ok] at hq ⊢
    have same : st.set b (bodyO many rc cc) = st := by
      refine List.ext_getElem? fun i => ?_
      by_cases e : i = b
      · subst e; rw [set_get eb, eb]
      · rw [List.getElem?_set_ne (Ne.symm e)]
    simp only [Rw.sizes, Rw.coinss, Int.natCast_zero, Int.add_zero, same] at hq
    refine call_z f_Body_good_rows.fn rfl rfl ?_
    show wpB T (Call T (k + 3 * 0 + 7)) none b_Body_good_rows [some (.ref b), some (.tup []), some (.int dp), some (.int lp), none] st _
    unfold b_Body_good_rows
    simp!
    refine for_s (fun r env s => r = [] ∧ s = st) ⟨rfl, rfl⟩ (fun d r env s N ⟨e, _⟩ hN => by cases e) (fun env s ⟨_, e⟩ => ?_)
    simp!
    rw [e]
    exact hq
  | succ h ih =>
    intro k depth loops rows rc cc dp lp st Q X hd hl l2 ok eb h1 h2 hq
    refine call_z f_Body_good_rows.fn rfl rfl ?_
    show wpB T (Call T (k + 3 * h + 10)) none b_Body_good_rows [some (.ref b), some (.tup (Rw.ds rows)), some (.int dp), some (.int lp), none] st _
    unfold b_Body_good_rows
    have g1 : ∀ o : O, (st.set b o)[b]? = some o := fun o => set_get eb
    have rest : ∃ n, forN (.seq (Rw.ds rows)) (.nm 4) (lz (fun e s k' => wpB T (Call T (k + 3 * h + 10)) none (.cons (.augf (.var 0) d_row_count .add (.con (.int 1))) (.cons (.ifS (.or (.cmp .gt (.fld d_row_count (.var 0)) (.glo 4)) (.not (.tv (.meth [(c_Body, n_Body_good_row)] (.var 0) (.cons (.var 4) (.cons (.var 2) (.cons (.var 3) .nil))))))) (.cons (.ret (.con (.bl false))) .nil) .nil) .nil)) e s k') .mk)
        (ks T (Call T (k + 3 * h + 10)) none (.cons (.ret (.con (.bl true))) .nil) (kc Q X .mk .mk) .mk) n 0 [some (.ref b), some (.tup (Rw.ds rows)), some (.int dp), some (.int lp), none] st := by
      refine for_s (fun r env s => ∃ (rs : List Rw) (rc1 cc1 : Int) (o : Option D), r = Rw.ds rs ∧ (∀ x ∈ rs, x ∈ rows) ∧ rc1 + Rw.sizes rs = rc + Rw.sizes rows ∧ cc1 + Rw.coinss rs = cc + Rw.coinss rows ∧ s[b]? = some (bodyO many rc1 cc1) ∧ (∀ o, s.set b o = st.set b o) ∧ env = [some (.ref b), some (.tup (Rw.ds rows)), some (.int dp), some (.int lp), o]) ⟨rows, rc, cc, none, rfl, fun _ m => m, rfl, rfl, eb, fun _ => rfl, rfl⟩ (fun d r env s N ⟨rs, rc1, cc1, o, e1, e2, e3, e4, e5, e6, e7⟩ hN => ?_) (fun env s ⟨rs, rc1, cc1, o, e1, e2, e3, e4, e5, e6, e7⟩ => ?_)
      · subst e7
        cases rs with
        | nil => cases e1
        | cons x rs =>
          have e1 : d :: r = x.d :: Rw.ds rs := e1
          injection e1 with e1 e1'
          subst e1 e1'
          simp only [Rw.sizes, Rw.coinss] at e3 e4
          obtain ⟨loops', p1, p2, p3, p4⟩ := x.lp (rowsOk_row ok (e2 x List.mem_cons_self)) l2
          have sN := x.sumN
          have sC := x.sumC
          have gs : ∀ o : O, (s.set b o)[b]? = some o := fun o => set_get e5
          have e5' := e5
          unfold bodyO at e5'
          have t1 : decide (2000 < rc1 + 1) = false := decide_eq_false (by omega)
          simp! [e5', gs, t1, Rw.d_eq]
          refine goodrow (h := h) (k := k + 3 * h) (depth := depth) (loops := loops) (loops' := loops') (cc := cc1) (cc' := cc1 + (if x.w = wCoin then 1 else 0)) x.kon hd hl p1 p2 ?_ p4 (gs _) x.wlen.1 x.wlen.2 (fun rows' s' Q' X' dp' lp' rc' cc' a1 a2 a3 a4 a5 a6 a7 => ih a1 a2 p2 a3 a4 a5 a6 a7) (by omega) (by split at sC <;> simp_all <;> omega) ?_
          · by_cases z : x.w = wCoin
            · exact .inl ⟨z, by rw [if_pos z], p3 z⟩
            · exact .inr ⟨z, by rw [if_neg z, Int.add_zero]⟩
          · simp!
            refine hN _ _ ⟨rs, _, _, _, rfl, fun y m => e2 y (List.mem_cons_of_mem _ m), ?_, ?_, set_get (gs _), fun o => by rw [List.set_set, List.set_set, e6], rfl⟩
            · omega
            · split at sC
              · rename_i z; rw [if_pos z]; omega
              · rename_i z; rw [if_neg z]; omega
      · subst e7
        cases rs with
        | cons x rs => cases e1
        | nil =>
          simp only [Rw.sizes, Rw.coinss, Int.natCast_zero, Int.add_zero] at e3 e4
          simp!
          have : s = st.set b (bodyO many (rc + Rw.sizes rows) (cc + Rw.coinss rows)) := by
            rw [← e6, ← e3, ← e4]
            refine List.ext_getElem? fun i => ?_
            by_cases e : i = b
            · subst e; rw [set_get e5, e5]
            · rw [List.getElem?_set_ne (Ne.symm e)]
          rw [this]
          exact hq
    by_cases z : rows = []
    · subst z
      simp! [Rw.ds]
      exact rest
    · have t1 : decide (12 < dp) = false := decide_eq_false (by have := ok.1 z; omega)
      have t2 : decide (0 < ((Rw.ds rows).length : Int)) = true := decide_eq_true (by rw [ds_len]; have := List.length_pos_iff.mpr z; omega)
      simp! [v_lent, t1, t2]
      exact rest
theorem hascoin : ∀ (h : Nat) {k many depth loops : Nat} {rows : List Rw} {st : Store} {Q : QE} {X : QX}, rowsOk h many depth loops rows → Q (.bl (Rw.hasCs rows)) st → Call T (k + h + 1) n_has_coin [.tup (Rw.ds rows)] st Q X := by
  intro h
  induction h with
  | zero =>
    intro k many depth loops rows st Q X ok hq
    rw [show rows = [] from ok] at hq ⊢
    refine call_z f_has_coin.fn rfl rfl ?_
    show wpB T (Call T (k + 0)) none b_has_coin [some (.tup []), none] st _
    unfold b_has_coin
    simp!
    refine for_s (fun r env s => r = [] ∧ s = st) ⟨rfl, rfl⟩ (fun d r env s N ⟨e, _⟩ hN => by cases e) (fun env s ⟨_, e⟩ => ?_)
    simp!
    rw [e]
    exact hq
  | succ h ih =>
    intro k many depth loops rows st Q X ok hq
    refine call_z f_has_coin.fn rfl rfl ?_
    show wpB T (Call T (k + (h + 1))) none b_has_coin [some (.tup (Rw.ds rows)), none] st _
    unfold b_has_coin
    simp!
    refine for_s (fun r env s => ∃ (rs : List Rw) (o : Option D), r = Rw.ds rs ∧ (∀ x ∈ rs, x ∈ rows) ∧ Rw.hasCs rs = Rw.hasCs rows ∧ s = st ∧ env = [some (.tup (Rw.ds rows)), o]) ⟨rows, none, rfl, fun _ m => m, rfl, rfl, rfl⟩ (fun d r env s N ⟨rs, o, e1, e2, e3, e4, e5⟩ hN => ?_) (fun env s ⟨rs, o, e1, e2, e3, e4, e5⟩ => ?_)
    · subst e4 e5
      cases rs with
      | nil => cases e1
      | cons x rs =>
        have e1 : d :: r = x.d :: Rw.ds rs := e1
        injection e1 with e1 e1'
        subst e1 e1'
        have xo := rowsOk_row ok (e2 x List.mem_cons_self)
        have e3 : (x.hasC || Rw.hasCs rs) = Rw.hasCs rows := e3
        have go : x.hasC = false → N [some (.tup (Rw.ds rows)), some x.d] s := fun f => hN _ _ ⟨rs, _, rfl, fun y m => e2 y (List.mem_cons_of_mem _ m), by rw [← e3, f]; rfl, rfl, rfl⟩
        have yes : x.hasC = true → Q (.bl true) s := fun f => by rw [← e3, f] at hq; exact hq
        cases x with
        | coin r =>
          have t : decide (wCoin = ([99, 111, 105, 110] : List Nat)) = true := by decide
          simp! [Rw.d, t]
          exact yes rfl
        | ife e a b =>
          have t : decide (wIf = ([99, 111, 105, 110] : List Nat)) = false := by decide
          have t2 : decide (wIf = ([105, 102] : List Nat)) = true := by decide
          have t3 : decide (wIf = ([116, 105, 109, 101, 115] : List Nat)) = false := by decide
          simp! [Rw.d, t, t2]
          refine ih (k := k) xo.2.1 ?_
          cases ca : Rw.hasCs a with
          | true =>
            simp!
            exact yes (by show (Rw.hasCs a || _) = true; rw [ca]; rfl)
          | false =>
            simp! [Rw.d]
            refine ih (k := k) xo.2.2 ?_
            cases cb : Rw.hasCs b with
            | true =>
              simp!
              exact yes (by show (_ || Rw.hasCs b) = true; rw [cb]; simp)
            | false =>
              simp! [Rw.d, t3]
              exact go (by show (Rw.hasCs a || Rw.hasCs b) = false; rw [ca, cb]; rfl)
        | times e a =>
          have t : decide (wTimes = ([99, 111, 105, 110] : List Nat)) = false := by decide
          have t2 : decide (wTimes = ([105, 102] : List Nat)) = false := by decide
          have t3 : decide (wTimes = ([116, 105, 109, 101, 115] : List Nat)) = true := by decide
          simp! [Rw.d, t, t2, t3]
          refine ih (k := k) xo.2.2 ?_
          cases ca : Rw.hasCs a with
          | true =>
            simp!
            exact yes ca
          | false =>
            simp! [Rw.d]
            exact go ca
        | read r c =>
          have t : decide (wRead = ([99, 111, 105, 110] : List Nat)) = false := by decide
          have t2 : decide (wRead = ([105, 102] : List Nat)) = false := by decide
          have t3 : decide (wRead = ([116, 105, 109, 101, 115] : List Nat)) = false := by decide
          simp! [Rw.d, t, t2, t3]
          exact go rfl
        | set c e =>
          have t : decide (wSet = ([99, 111, 105, 110] : List Nat)) = false := by decide
          have t2 : decide (wSet = ([105, 102] : List Nat)) = false := by decide
          have t3 : decide (wSet = ([116, 105, 109, 101, 115] : List Nat)) = false := by decide
          simp! [Rw.d, t, t2, t3]
          exact go rfl
        | swap r c e f =>
          have t : decide (wSwap = ([99, 111, 105, 110] : List Nat)) = false := by decide
          have t2 : decide (wSwap = ([105, 102] : List Nat)) = false := by decide
          have t3 : decide (wSwap = ([116, 105, 109, 101, 115] : List Nat)) = false := by decide
          simp! [Rw.d, t, t2, t3]
          exact go rfl
        | keep r e =>
          have t : decide (wKeep = ([99, 111, 105, 110] : List Nat)) = false := by decide
          have t2 : decide (wKeep = ([105, 102] : List Nat)) = false := by decide
          have t3 : decide (wKeep = ([116, 105, 109, 101, 115] : List Nat)) = false := by decide
          simp! [Rw.d, t, t2, t3]
          exact go rfl
        | ans e =>
          have t : decide (wAns = ([99, 111, 105, 110] : List Nat)) = false := by decide
          have t2 : decide (wAns = ([105, 102] : List Nat)) = false := by decide
          have t3 : decide (wAns = ([116, 105, 109, 101, 115] : List Nat)) = false := by decide
          simp! [Rw.d, t, t2, t3]
          exact go rfl
    · subst e4 e5
      cases rs with
      | cons x rs => cases e1
      | nil =>
        rw [← e3] at hq
        simp!
        exact hq
end
end Y.K_k12
set_option linter.all false
set_option maxHeartbeats 4000000
set_option maxRecDepth 100000
namespace Y.K_k12
open Y PySem
local macro_rules
  | `(tactic| simp! [$ls,*]) => `(tactic| simp (implicitDefEqProofs := false) (dsimp := false) (failIfUnchanged := false) only [lz1, z_ifT, z_ifF, k_c0, k_c1, k_c2, k_c3, k_c4, k_c5, k_c6, k_few0, k_fewS, k_lkm, k_pf0, k_pfh, k_pfm, k_cls, k_clsO, ks_nx, ks_rt, ks_bk, ks_ct, ks_xc, kl_nx, kl_rt, kl_bk, kl_ct, kl_xc, kc_nx, kc_rt, kc_xc, kt_nx, kt_rt, kt_bk, kt_ct, kt_xc, kh_nx, kh_rt, un_n, un_s, isNon_1, isNon_2, isNon_3, isNon_4, isNon_5, isNon_6, isNon_7, boolQ_1, intQ_1, optQ_1, lstQ_1, sqQ_1, sqQ_2, cntQ_1, cntQ_2, cntQ_3, dicQ_1, insQ_1, getIx_0, getIx_1, getIx_2, getIx_3, getIx_4, getIx_5, ixrQ_1, ixrQ_2, ixrQ_3, ixrQ_4, setIx_0, setIx_1, setIx_2, bindQ_nm, bindL_0, bindL_1, bindQ_tp, z_var, z_con, z_glo, z_bin, z_neg, z_cmp, z_chain, z_isN, z_notN, z_and, z_or, z_not, z_ife, z_call, z_make, methQ_1, z_meth, z_fld, z_pr, z_me, z_isi, z_idx, z_sli, z_abs0, z_tup, z_lst, z_dic, z_dcomp, z_fstr, z_efld, z_eisi, z_comp, z_Tcmp, z_Tchain, z_TisN, z_TnotN, z_Tand, z_Tor, z_Tnot, z_Ttv, z_nil, z_cons, z_Fnil, z_Fcons, z_Tsn, z_Ts1, z_rng1, int2Q_1, z_rng2, z_enm, z_zip, z_sq, z_Bnil, z_Bcons, z_asg, z_asgt, z_asg2, z_setf, z_seti, augQ_1, augQ_2, z_augn, z_augf, z_exp, z_ret, z_retN, z_if, z_for, z_whl, z_brk, z_cnt, z_pas, z_rais0, z_rais1, z_try, z_Hnil, z_Hcons, v_v0, v_vs, v_add, v_sub, v_mul, v_fdiv, v_mod, v_pow, v_sadd, v_tadd, v_ladd, v_lmul, v_int, v_intb, v_abs, v_max2, v_min2, v_stri, v_lens, v_lenm, v_len0, v_len1, v_len2, v_len3, v_len4, v_len5, v_len6, v_lenr, v_tupt, v_tupr, v_lstt, v_lstr, v_any, v_all, v_ixt, v_ixr, v_kon, v_seti, strQ_1, strQ_2, strQ_3, v_pts, v_ptn, v_sls, v_slt, v_slr, v_fld, v_setf, v_okl, v_oks, v_app, v_pop, v_lt, v_le, v_gt, v_ge, v_eq, v_ne, v_in, v_ni, v_eqii, v_eqss, v_eqbb, v_eqsi, v_eqis, v_eqni, v_eqin, v_eqns, v_eqsn, v_trn, v_trb, v_tri, v_trt, v_trr, v_trs, v_fms, v_fmi, v_inp, inrQ_1, inrQ_2, inrQ_3, v_inl, v_inK, v_ins, t_n, t_b, t_i, t_s, t_t, t_r, tyO_1, tyO_2, tyO_3, tyO_4, y_n, y_b, y_i, y_s, y_t, y_l, y_d, y_o, y_o1, y_o2, y_o3, y_o4, y_o5, y_o6, w_t, w_s, w_r, w_e, w_zs, w_zt, List.map_cons, List.map_nil, List.replicate_succ, List.replicate_zero, List.cons_append, List.nil_append, List.append_nil, List.set_cons_zero, List.set_cons_succ, List.any_cons, List.any_nil, List.lookup_cons_self, meT, reduceCtorEq, decide_true, decide_false, Bool.or_false, Bool.false_or, Bool.or_true, Bool.true_or, Bool.not_true, Bool.not_false, Bool.and_true, Bool.true_and, Bool.and_false, Bool.false_and, true_and, and_true, wipeE, Option.isSome_some, Option.isSome_none, List.getElem?_concat_length, Nat.reduceBEq, Int.reduceEq, Int.reduceLT, Int.reduceLE, Int.reduceNeg, glo_0, glo_1, glo_2, glo_3, glo_4, glo_5, glo_6, glo_7, glo_8, konn_0, konq_0_0, konq_0_1, konq_0_2, konq_0_3, konq_0_4, konq_0_5, konq_0_6, konq_0_7, alt_0, alt_1, alt_2, alt_3, alt_4, alt_5, alt_6, alt_7, alt_8, exf_0, exf_1, exf_2, exf_3, exf_4, exf_5, c_PastError, c_NoName, c_NoState, c_HasCoins, c_NoVault, c_NoRow, c_Body, c_Walk, c_Vault, d_size_row, d_choice_table, d_coined, d_used, d_trace, d_cells, d_result, d_begin, d_deed_row, d_coin_count, d_row_count, d_many_cells, d_body_table, d_coins, d_held, d_cell_row, d_part, d_index, $ls,*])
local macro_rules
  | `(tactic| simp!) => `(tactic| simp (implicitDefEqProofs := false) (dsimp := false) (failIfUnchanged := false) only [lz1, z_ifT, z_ifF, k_c0, k_c1, k_c2, k_c3, k_c4, k_c5, k_c6, k_few0, k_fewS, k_lkm, k_pf0, k_pfh, k_pfm, k_cls, k_clsO, ks_nx, ks_rt, ks_bk, ks_ct, ks_xc, kl_nx, kl_rt, kl_bk, kl_ct, kl_xc, kc_nx, kc_rt, kc_xc, kt_nx, kt_rt, kt_bk, kt_ct, kt_xc, kh_nx, kh_rt, un_n, un_s, isNon_1, isNon_2, isNon_3, isNon_4, isNon_5, isNon_6, isNon_7, boolQ_1, intQ_1, optQ_1, lstQ_1, sqQ_1, sqQ_2, cntQ_1, cntQ_2, cntQ_3, dicQ_1, insQ_1, getIx_0, getIx_1, getIx_2, getIx_3, getIx_4, getIx_5, ixrQ_1, ixrQ_2, ixrQ_3, ixrQ_4, setIx_0, setIx_1, setIx_2, bindQ_nm, bindL_0, bindL_1, bindQ_tp, z_var, z_con, z_glo, z_bin, z_neg, z_cmp, z_chain, z_isN, z_notN, z_and, z_or, z_not, z_ife, z_call, z_make, methQ_1, z_meth, z_fld, z_pr, z_me, z_isi, z_idx, z_sli, z_abs0, z_tup, z_lst, z_dic, z_dcomp, z_fstr, z_efld, z_eisi, z_comp, z_Tcmp, z_Tchain, z_TisN, z_TnotN, z_Tand, z_Tor, z_Tnot, z_Ttv, z_nil, z_cons, z_Fnil, z_Fcons, z_Tsn, z_Ts1, z_rng1, int2Q_1, z_rng2, z_enm, z_zip, z_sq, z_Bnil, z_Bcons, z_asg, z_asgt, z_asg2, z_setf, z_seti, augQ_1, augQ_2, z_augn, z_augf, z_exp, z_ret, z_retN, z_if, z_for, z_whl, z_brk, z_cnt, z_pas, z_rais0, z_rais1, z_try, z_Hnil, z_Hcons, v_v0, v_vs, v_add, v_sub, v_mul, v_fdiv, v_mod, v_pow, v_sadd, v_tadd, v_ladd, v_lmul, v_int, v_intb, v_abs, v_max2, v_min2, v_stri, v_lens, v_lenm, v_len0, v_len1, v_len2, v_len3, v_len4, v_len5, v_len6, v_lenr, v_tupt, v_tupr, v_lstt, v_lstr, v_any, v_all, v_ixt, v_ixr, v_kon, v_seti, strQ_1, strQ_2, strQ_3, v_pts, v_ptn, v_sls, v_slt, v_slr, v_fld, v_setf, v_okl, v_oks, v_app, v_pop, v_lt, v_le, v_gt, v_ge, v_eq, v_ne, v_in, v_ni, v_eqii, v_eqss, v_eqbb, v_eqsi, v_eqis, v_eqni, v_eqin, v_eqns, v_eqsn, v_trn, v_trb, v_tri, v_trt, v_trr, v_trs, v_fms, v_fmi, v_inp, inrQ_1, inrQ_2, inrQ_3, v_inl, v_inK, v_ins, t_n, t_b, t_i, t_s, t_t, t_r, tyO_1, tyO_2, tyO_3, tyO_4, y_n, y_b, y_i, y_s, y_t, y_l, y_d, y_o, y_o1, y_o2, y_o3, y_o4, y_o5, y_o6, w_t, w_s, w_r, w_e, w_zs, w_zt, List.map_cons, List.map_nil, List.replicate_succ, List.replicate_zero, List.cons_append, List.nil_append, List.append_nil, List.set_cons_zero, List.set_cons_succ, List.any_cons, List.any_nil, List.lookup_cons_self, meT, reduceCtorEq, decide_true, decide_false, Bool.or_false, Bool.false_or, Bool.or_true, Bool.true_or, Bool.not_true, Bool.not_false, Bool.and_true, Bool.true_and, Bool.and_false, Bool.false_and, true_and, and_true, wipeE, Option.isSome_some, Option.isSome_none, List.getElem?_concat_length, Nat.reduceBEq, Int.reduceEq, Int.reduceLT, Int.reduceLE, Int.reduceNeg, glo_0, glo_1, glo_2, glo_3, glo_4, glo_5, glo_6, glo_7, glo_8, konn_0, konq_0_0, konq_0_1, konq_0_2, konq_0_3, konq_0_4, konq_0_5, konq_0_6, konq_0_7, alt_0, alt_1, alt_2, alt_3, alt_4, alt_5, alt_6, alt_7, alt_8, exf_0, exf_1, exf_2, exf_3, exf_4, exf_5, c_PastError, c_NoName, c_NoState, c_HasCoins, c_NoVault, c_NoRow, c_Body, c_Walk, c_Vault, d_size_row, d_choice_table, d_coined, d_used, d_trace, d_cells, d_result, d_begin, d_deed_row, d_coin_count, d_row_count, d_many_cells, d_body_table, d_coins, d_held, d_cell_row, d_part, d_index])
structure Dd where
  nm : List Nat
  ch : Nat
  rows : List Rw
def Dd.d (x : Dd) : D := .tup [.str x.nm, .int x.ch, .tup (Rw.ds x.rows)]
def cellD (c : Nat × Nat) : D := .tup [.int c.1, .int c.2]
structure Vt where
  cells : List (Nat × Nat)
  deeds : List Dd
structure Dd.ok (many : Nat) (x : Dd) : Prop where
  nm : IsName x.nm
  lo : 1 ≤ x.ch
  hi : x.ch ≤ 9
  rows : rowsOk 12 many 1 0 x.rows
  size : Rw.sizes x.rows ≤ 2000
  coins : Rw.coinss x.rows ≤ 4
structure Vt.ok (V : Vt) : Prop where
  c1 : 1 ≤ V.cells.length
  c6 : V.cells.length ≤ 6
  cell : ∀ c ∈ V.cells, 1 ≤ c.1 ∧ c.1 ≤ 9 ∧ c.2 < c.1
  d1 : 1 ≤ V.deeds.length
  d8 : V.deeds.length ≤ 8
  deed : ∀ x ∈ V.deeds, x.ok V.cells.length
  nd : (V.deeds.map (·.nm)).Nodup
def Vt.chD (V : Vt) : List (D × D) := V.deeds.map fun x => (.str x.nm, .int x.ch)
def Vt.boD (V : Vt) : List (D × D) := V.deeds.map fun x => (.str x.nm, .tup (Rw.ds x.rows))
def Vt.o (V : Vt) (ct bt : Nat) : O := .ins c_Vault [(d_cell_row, .tup (V.cells.map cellD)), (d_deed_row, .tup (V.deeds.map Dd.d)), (d_size_row, .tup (V.cells.map fun c => .int c.1)), (d_begin, .tup (V.cells.map fun c => .int c.2)), (d_choice_table, .ref ct), (d_body_table, .ref bt), (d_coined, .bl (V.deeds.any fun x => Rw.hasCs x.rows))]
structure IsV (st : Store) (h : Nat) (V : Vt) : Prop where
  ok : V.ok
  at_ : ∃ ct bt, st[h]? = some (V.o ct bt) ∧ st[ct]? = some (.dic V.chD) ∧ st[bt]? = some (.dic V.boD)
theorem IsV.keep {a b : Store} {h : Nat} {V : Vt} (x : IsV a h V) (k : Keep a b) : IsV b h V := by
  obtain ⟨ok, ct, bt, h1, h2, h3⟩ := x
  exact ⟨ok, ct, bt, k.get h1, k.get h2, k.get h3⟩
theorem goodcells {k c : Nat} {cells : List (Nat × Nat)} {st : Store} {Q : QE} {X : QX} (ec : st[c]? = some (.lst (cells.map cellD))) (c1 : 1 ≤ cells.length) (c6 : cells.length ≤ 6) (ok : ∀ c ∈ cells, 1 ≤ c.1 ∧ c.1 ≤ 9 ∧ c.2 < c.1) (hq : Q (.bl true) st) : Call T (k + 2) n_good_cells [.ref c] st Q X := by
  refine call_z f_good_cells.fn rfl rfl ?_
  show wpB T (Call T (k + 1)) none b_good_cells [some (.ref c), none] st _
  unfold b_good_cells
  have t1 : decide (1 ≤ ((cells.map cellD).length : Int)) = true := decide_eq_true (by rw [List.length_map]; omega)
  have t2 : decide (((cells.map cellD).length : Int) ≤ 6) = true := decide_eq_true (by rw [List.length_map]; omega)
  simp! [ec, t1, t2]
  refine for_l (ds := cells.map cellD) (fun r env s => ∃ (cs : List (Nat × Nat)) (o : Option D), r = cs.map cellD ∧ (∀ x ∈ cs, x ∈ cells) ∧ s = st ∧ env = [some (.ref c), o]) ⟨cells, none, rfl, fun _ m => m, rfl, rfl⟩ (fun r env s ⟨cs, o, e1, e2, e3, e4⟩ => by rw [e3, ec]; rfl) (fun d r env s N ⟨cs, o, e1, e2, e3, e4⟩ hN => ?_) (fun env s ⟨cs, o, e1, e2, e3, e4⟩ => ?_)
  · subst e3 e4
    cases cs with
    | nil => cases e1
    | cons x cs =>
      cases e1
      obtain ⟨h1, h2, h3⟩ := ok x (e2 x List.mem_cons_self)
      have u1 : decide (1 ≤ (x.1 : Int)) = true := decide_eq_true (by omega)
      have u2 : decide ((x.1 : Int) ≤ 9) = true := decide_eq_true (by omega)
      have u3 : decide (0 ≤ (x.2 : Int)) = true := decide_eq_true (by omega)
      have u4 : decide ((x.2 : Int) < (x.1 : Int)) = true := decide_eq_true (by omega)
      simp! [cellD]
      refine isint ?_
      simp! [u1, u2]
      refine isint ?_
      simp! [u3, u4]
      exact hN _ _ ⟨cs, _, rfl, fun y m => e2 y (List.mem_cons_of_mem _ m), rfl, rfl⟩
  · subst e3 e4
    simp!
    exact hq
theorem inD_str {x : List Nat} {ys : List (List Nat)} : inD (.str x) (ys.map D.str) = decide (x ∈ ys) := by
  induction ys with
  | nil => rfl
  | cons y ys ih =>
    have : inD (.str x) ((y :: ys).map D.str) = (decide (y = x) || inD (.str x) (ys.map D.str)) := rfl
    rw [this, ih]
    by_cases e : y = x
    · subst e; simp
    · have e' : ¬ x = y := fun z => e z.symm
      simp [e, e']
theorem flat_strs (ys : List (List Nat)) : (ys.map D.str).all flatD = true := by
  rw [List.all_map]
  exact List.all_eq_true.mpr fun _ _ => rfl
theorem goodheads {k c : Nat} {many : Nat} {deeds : List Dd} {st : Store} {Q : QE} {X : QX} (ec : st[c]? = some (.lst (deeds.map Dd.d))) (d1 : 1 ≤ deeds.length) (d8 : deeds.length ≤ 8) (ok : ∀ x ∈ deeds, x.ok many) (nd : (deeds.map (·.nm)).Nodup) (hq : ∀ s, Keep st s → Q (.bl true) s) : Call T (k + 2) n_good_heads [.ref c, .int 3] st Q X := by
  refine call_z f_good_heads.fn rfl rfl ?_
  show wpB T (Call T (k + 1)) none b_good_heads [some (.ref c), some (.int 3), none, none] st _
  unfold b_good_heads
  have t1 : decide (1 ≤ ((deeds.map Dd.d).length : Int)) = true := decide_eq_true (by rw [List.length_map]; omega)
  have t2 : decide (((deeds.map Dd.d).length : Int) ≤ 8) = true := decide_eq_true (by rw [List.length_map]; omega)
  have ec2 := get_app [.lst []] ec
  simp! [ec, ec2, t1, t2]
  refine for_l (ds := deeds.map Dd.d) (fun r env s => ∃ (done xs : List Dd) (o : Option D), deeds = done ++ xs ∧ r = xs.map Dd.d ∧ s = st ++ [.lst ((done.map (·.nm)).map D.str)] ∧ env = [some (.ref c), some (.int 3), some (.ref st.length), o]) ⟨[], deeds, none, rfl, rfl, rfl, rfl⟩ (fun r env s ⟨done, xs, o, e1, e2, e3, e4⟩ => by rw [e3, get_app _ ec]; rfl) (fun d r env s N ⟨done, xs, o, e1, e2, e3, e4⟩ hN => ?_) (fun env s ⟨done, xs, o, e1, e2, e3, e4⟩ => ?_)
  · subst e3 e4
    cases xs with
    | nil => cases e2
    | cons x xs =>
      cases e2
      have xo := ok x (by rw [e1]; simp)
      have u1 : decide (1 ≤ (x.ch : Int)) = true := decide_eq_true (by have := xo.lo; omega)
      have u2 : decide ((x.ch : Int) ≤ 9) = true := decide_eq_true (by have := xo.hi; omega)
      have ni : decide (x.nm ∈ done.map (·.nm)) = false := by
        refine decide_eq_false fun m => ?_
        rw [e1, List.map_append, List.map_cons] at nd
        exact (List.nodup_append.mp nd).2.2 _ m _ List.mem_cons_self rfl
      simp! [Dd.d]
      refine isname xo.nm ?_
      simp! [Dd.d, inD_str, ni]
      refine ⟨rfl, flat_strs _, ?_⟩
      simp! [ni]
      refine isint ?_
      simp! [u1, u2]
      refine ⟨lt_line (by have := congrArg List.length e1; simp at this ⊢; omega), ?_⟩
      refine hN _ _ ⟨done ++ [x], xs, _, join_snoc e1, rfl, ?_, rfl⟩
      rw [set_last]
      simp
  · subst e3 e4
    simp!
    exact hq _ (.new _ _)
theorem bodyinit {k b many : Nat} {st : Store} {Q : QE} {X : QX} (eb : st[b]? = some (.ins c_Body [])) (hq : Q .non (st.set b (bodyO many 0 0))) : Call T (k + 1) n_Body___init__ [.ref b, .int many] st Q X := by
  refine call_z f_Body___init__.fn rfl rfl ?_
  show wpB T (Call T k) none b_Body___init__ [some (.ref b), some (.int many)] st _
  unfold b_Body___init__
  have g1 : ∀ o : O, (st.set b o)[b]? = some o := fun o => set_get eb
  simp! [eb, g1, List.set_set]
  exact hq
theorem gooddeeds {k c : Nat} {many : Nat} {deeds : List Dd} {st : Store} {Q : QE} {X : QX} (ec : st[c]? = some (.lst (deeds.map Dd.d))) (d1 : 1 ≤ deeds.length) (d8 : deeds.length ≤ 8) (ok : ∀ x ∈ deeds, x.ok many) (nd : (deeds.map (·.nm)).Nodup) (hq : ∀ s, Keep st s → Q (.bl true) s) : Call T (k + 50) n_good_deeds [.ref c, .int many] st Q X := by
  refine call_z f_good_deeds.fn rfl rfl ?_
  show wpB T (Call T (k + 49)) none b_good_deeds [some (.ref c), some (.int many), none, none] st _
  unfold b_good_deeds
  simp!
  refine goodheads (k := k + 47) ec d1 d8 ok nd fun s1 k1 => ?_
  have ec1 := k1.get ec
  simp! [ec1]
  refine for_l (ds := deeds.map Dd.d) (fun r env s => ∃ (xs : List Dd) (o1 o2 : Option D), (∀ x ∈ xs, x ∈ deeds) ∧ r = xs.map Dd.d ∧ Keep st s ∧ env = [some (.ref c), some (.int many), o1, o2]) ⟨deeds, none, none, fun _ m => m, rfl, k1, rfl⟩ (fun r env s ⟨xs, o1, o2, e1, e2, e3, e4⟩ => by rw [e3.get ec]; rfl) (fun d r env s N ⟨xs, o1, o2, e1, e2, e3, e4⟩ hN => ?_) (fun env s ⟨xs, o1, o2, e1, e2, e3, e4⟩ => ?_)
  · subst e4
    cases xs with
    | nil => cases e2
    | cons x xs =>
      cases e2
      have xo := ok x (e1 x List.mem_cons_self)
      simp!
      refine bodyinit (get_snoc _ _) ?_
      rw [set_last]
      simp! [Dd.d]
      have gb : (s ++ [bodyO many 0 0])[s.length]? = some (bodyO many 0 0) := get_snoc _ _
      have gb' := gb
      unfold bodyO at gb'
      dsimp only [c_Body] at gb'
      simp! [bodyO, Dd.d]
      refine goodrows 12 (k := k + 5) (depth := 1) (loops := 0) rfl rfl (by decide) xo.rows gb (by have := xo.size; omega) (by have := xo.coins; omega) ?_
      rw [set_last]
      simp!
      exact hN _ _ ⟨xs, _, _, fun y m => e1 y (List.mem_cons_of_mem _ m), rfl, e3.app _, rfl⟩
  · subst e4
    simp!
    exact hq _ e3
end Y.K_k12
set_option linter.all false
set_option maxHeartbeats 4000000
set_option maxRecDepth 100000
namespace Y.K_k12
open Y PySem
local macro_rules
  | `(tactic| simp! [$ls,*]) => `(tactic| simp (implicitDefEqProofs := false) (dsimp := false) (failIfUnchanged := false) only [lz1, z_ifT, z_ifF, k_c0, k_c1, k_c2, k_c3, k_c4, k_c5, k_c6, k_few0, k_fewS, k_lkm, k_pf0, k_pfh, k_pfm, k_cls, k_clsO, ks_nx, ks_rt, ks_bk, ks_ct, ks_xc, kl_nx, kl_rt, kl_bk, kl_ct, kl_xc, kc_nx, kc_rt, kc_xc, kt_nx, kt_rt, kt_bk, kt_ct, kt_xc, kh_nx, kh_rt, un_n, un_s, isNon_1, isNon_2, isNon_3, isNon_4, isNon_5, isNon_6, isNon_7, boolQ_1, intQ_1, optQ_1, lstQ_1, sqQ_1, sqQ_2, cntQ_1, cntQ_2, cntQ_3, dicQ_1, insQ_1, getIx_0, getIx_1, getIx_2, getIx_3, getIx_4, getIx_5, ixrQ_1, ixrQ_2, ixrQ_3, ixrQ_4, setIx_0, setIx_1, setIx_2, bindQ_nm, bindL_0, bindL_1, bindQ_tp, z_var, z_con, z_glo, z_bin, z_neg, z_cmp, z_chain, z_isN, z_notN, z_and, z_or, z_not, z_ife, z_call, z_make, methQ_1, z_meth, z_fld, z_pr, z_me, z_isi, z_idx, z_sli, z_abs0, z_tup, z_lst, z_dic, z_dcomp, z_fstr, z_efld, z_eisi, z_comp, z_Tcmp, z_Tchain, z_TisN, z_TnotN, z_Tand, z_Tor, z_Tnot, z_Ttv, z_nil, z_cons, z_Fnil, z_Fcons, z_Tsn, z_Ts1, z_rng1, int2Q_1, z_rng2, z_enm, z_zip, z_sq, z_Bnil, z_Bcons, z_asg, z_asgt, z_asg2, z_setf, z_seti, augQ_1, augQ_2, z_augn, z_augf, z_exp, z_ret, z_retN, z_if, z_for, z_whl, z_brk, z_cnt, z_pas, z_rais0, z_rais1, z_try, z_Hnil, z_Hcons, v_v0, v_vs, v_add, v_sub, v_mul, v_fdiv, v_mod, v_pow, v_sadd, v_tadd, v_ladd, v_lmul, v_int, v_intb, v_abs, v_max2, v_min2, v_stri, v_lens, v_lenm, v_len0, v_len1, v_len2, v_len3, v_len4, v_len5, v_len6, v_lenr, v_tupt, v_tupr, v_lstt, v_lstr, v_any, v_all, v_ixt, v_ixr, v_kon, v_seti, strQ_1, strQ_2, strQ_3, v_pts, v_ptn, v_sls, v_slt, v_slr, v_fld, v_setf, v_okl, v_oks, v_app, v_pop, v_lt, v_le, v_gt, v_ge, v_eq, v_ne, v_in, v_ni, v_eqii, v_eqss, v_eqbb, v_eqsi, v_eqis, v_eqni, v_eqin, v_eqns, v_eqsn, v_trn, v_trb, v_tri, v_trt, v_trr, v_trs, v_fms, v_fmi, v_inp, inrQ_1, inrQ_2, inrQ_3, v_inl, v_inK, v_ins, t_n, t_b, t_i, t_s, t_t, t_r, tyO_1, tyO_2, tyO_3, tyO_4, y_n, y_b, y_i, y_s, y_t, y_l, y_d, y_o, y_o1, y_o2, y_o3, y_o4, y_o5, y_o6, w_t, w_s, w_r, w_e, w_zs, w_zt, List.map_cons, List.map_nil, List.replicate_succ, List.replicate_zero, List.cons_append, List.nil_append, List.append_nil, List.set_cons_zero, List.set_cons_succ, List.any_cons, List.any_nil, List.lookup_cons_self, meT, reduceCtorEq, decide_true, decide_false, Bool.or_false, Bool.false_or, Bool.or_true, Bool.true_or, Bool.not_true, Bool.not_false, Bool.and_true, Bool.true_and, Bool.and_false, Bool.false_and, true_and, and_true, wipeE, Option.isSome_some, Option.isSome_none, List.getElem?_concat_length, Nat.reduceBEq, Int.reduceEq, Int.reduceLT, Int.reduceLE, Int.reduceNeg, glo_0, glo_1, glo_2, glo_3, glo_4, glo_5, glo_6, glo_7, glo_8, konn_0, konq_0_0, konq_0_1, konq_0_2, konq_0_3, konq_0_4, konq_0_5, konq_0_6, konq_0_7, alt_0, alt_1, alt_2, alt_3, alt_4, alt_5, alt_6, alt_7, alt_8, exf_0, exf_1, exf_2, exf_3, exf_4, exf_5, c_PastError, c_NoName, c_NoState, c_HasCoins, c_NoVault, c_NoRow, c_Body, c_Walk, c_Vault, d_size_row, d_choice_table, d_coined, d_used, d_trace, d_cells, d_result, d_begin, d_deed_row, d_coin_count, d_row_count, d_many_cells, d_body_table, d_coins, d_held, d_cell_row, d_part, d_index, $ls,*])
local macro_rules
  | `(tactic| simp!) => `(tactic| simp (implicitDefEqProofs := false) (dsimp := false) (failIfUnchanged := false) only [lz1, z_ifT, z_ifF, k_c0, k_c1, k_c2, k_c3, k_c4, k_c5, k_c6, k_few0, k_fewS, k_lkm, k_pf0, k_pfh, k_pfm, k_cls, k_clsO, ks_nx, ks_rt, ks_bk, ks_ct, ks_xc, kl_nx, kl_rt, kl_bk, kl_ct, kl_xc, kc_nx, kc_rt, kc_xc, kt_nx, kt_rt, kt_bk, kt_ct, kt_xc, kh_nx, kh_rt, un_n, un_s, isNon_1, isNon_2, isNon_3, isNon_4, isNon_5, isNon_6, isNon_7, boolQ_1, intQ_1, optQ_1, lstQ_1, sqQ_1, sqQ_2, cntQ_1, cntQ_2, cntQ_3, dicQ_1, insQ_1, getIx_0, getIx_1, getIx_2, getIx_3, getIx_4, getIx_5, ixrQ_1, ixrQ_2, ixrQ_3, ixrQ_4, setIx_0, setIx_1, setIx_2, bindQ_nm, bindL_0, bindL_1, bindQ_tp, z_var, z_con, z_glo, z_bin, z_neg, z_cmp, z_chain, z_isN, z_notN, z_and, z_or, z_not, z_ife, z_call, z_make, methQ_1, z_meth, z_fld, z_pr, z_me, z_isi, z_idx, z_sli, z_abs0, z_tup, z_lst, z_dic, z_dcomp, z_fstr, z_efld, z_eisi, z_comp, z_Tcmp, z_Tchain, z_TisN, z_TnotN, z_Tand, z_Tor, z_Tnot, z_Ttv, z_nil, z_cons, z_Fnil, z_Fcons, z_Tsn, z_Ts1, z_rng1, int2Q_1, z_rng2, z_enm, z_zip, z_sq, z_Bnil, z_Bcons, z_asg, z_asgt, z_asg2, z_setf, z_seti, augQ_1, augQ_2, z_augn, z_augf, z_exp, z_ret, z_retN, z_if, z_for, z_whl, z_brk, z_cnt, z_pas, z_rais0, z_rais1, z_try, z_Hnil, z_Hcons, v_v0, v_vs, v_add, v_sub, v_mul, v_fdiv, v_mod, v_pow, v_sadd, v_tadd, v_ladd, v_lmul, v_int, v_intb, v_abs, v_max2, v_min2, v_stri, v_lens, v_lenm, v_len0, v_len1, v_len2, v_len3, v_len4, v_len5, v_len6, v_lenr, v_tupt, v_tupr, v_lstt, v_lstr, v_any, v_all, v_ixt, v_ixr, v_kon, v_seti, strQ_1, strQ_2, strQ_3, v_pts, v_ptn, v_sls, v_slt, v_slr, v_fld, v_setf, v_okl, v_oks, v_app, v_pop, v_lt, v_le, v_gt, v_ge, v_eq, v_ne, v_in, v_ni, v_eqii, v_eqss, v_eqbb, v_eqsi, v_eqis, v_eqni, v_eqin, v_eqns, v_eqsn, v_trn, v_trb, v_tri, v_trt, v_trr, v_trs, v_fms, v_fmi, v_inp, inrQ_1, inrQ_2, inrQ_3, v_inl, v_inK, v_ins, t_n, t_b, t_i, t_s, t_t, t_r, tyO_1, tyO_2, tyO_3, tyO_4, y_n, y_b, y_i, y_s, y_t, y_l, y_d, y_o, y_o1, y_o2, y_o3, y_o4, y_o5, y_o6, w_t, w_s, w_r, w_e, w_zs, w_zt, List.map_cons, List.map_nil, List.replicate_succ, List.replicate_zero, List.cons_append, List.nil_append, List.append_nil, List.set_cons_zero, List.set_cons_succ, List.any_cons, List.any_nil, List.lookup_cons_self, meT, reduceCtorEq, decide_true, decide_false, Bool.or_false, Bool.false_or, Bool.or_true, Bool.true_or, Bool.not_true, Bool.not_false, Bool.and_true, Bool.true_and, Bool.and_false, Bool.false_and, true_and, and_true, wipeE, Option.isSome_some, Option.isSome_none, List.getElem?_concat_length, Nat.reduceBEq, Int.reduceEq, Int.reduceLT, Int.reduceLE, Int.reduceNeg, glo_0, glo_1, glo_2, glo_3, glo_4, glo_5, glo_6, glo_7, glo_8, konn_0, konq_0_0, konq_0_1, konq_0_2, konq_0_3, konq_0_4, konq_0_5, konq_0_6, konq_0_7, alt_0, alt_1, alt_2, alt_3, alt_4, alt_5, alt_6, alt_7, alt_8, exf_0, exf_1, exf_2, exf_3, exf_4, exf_5, c_PastError, c_NoName, c_NoState, c_HasCoins, c_NoVault, c_NoRow, c_Body, c_Walk, c_Vault, d_size_row, d_choice_table, d_coined, d_used, d_trace, d_cells, d_result, d_begin, d_deed_row, d_coin_count, d_row_count, d_many_cells, d_body_table, d_coins, d_held, d_cell_row, d_part, d_index])
theorem Kb.lt {v : Nat} {a b : Store} (x : Kb v a b) {h : Nat} (l : h < a.length) : h < b.length := Nat.lt_of_lt_of_le l x.len
theorem vinit {k v c d : Nat} {V : Vt} {st : Store} {Q : QE} {X : QX} (ok : V.ok) (ev : st[v]? = some (.ins c_Vault [])) (ec : st[c]? = some (.lst (V.cells.map cellD))) (ed : st[d]? = some (.lst (V.deeds.map Dd.d))) (hq : ∀ s, Kb v st s → IsV s v V → Q .non s) : Call T (k + 51) n_Vault___init__ [.ref v, .ref c, .ref d] st Q X := by
  refine call_z f_Vault___init__.fn rfl rfl ?_
  show wpB T (Call T (k + 50)) none b_Vault___init__ [some (.ref v), some (.ref c), some (.ref d), none, none] st _
  unfold b_Vault___init__
  have nvc : c ≠ v := fun e => by rw [e, ev] at ec; cases ec
  have nvd : d ≠ v := fun e => by rw [e, ev] at ed; cases ed
  have c6 := ok.c6
  have d8 := ok.d8
  simp!
  refine goodcells ec ok.c1 ok.c6 ok.cell ?_
  simp! [ec]
  rw [List.length_map]
  refine gooddeeds ed ok.d1 ok.d8 ok.deed ok.nd fun s1 k1 => ?_
  have b1 : Kb v st s1 := .of k1
  have v1 := k1.get ev
  have c1 := b1.get ec nvc
  have d1 := b1.get ed nvd
  clear k1
  simp! [c1, v1]
  generalize h2 : s1.set v _ = s2
  have b2 : Kb v st s2 := by rw [← h2]; exact b1.set _
  have v2 : s2[v]? = some (.ins c_Vault [(d_cell_row, .tup (V.cells.map cellD))]) := by rw [← h2]; exact set_get v1
  have c2 := b2.get ec nvc
  have d2 := b2.get ed nvd
  clear h2 b1 v1 c1 d1
  simp! [c2, d2, v2]
  generalize h3 : s2.set v _ = s3
  have b3 : Kb v st s3 := by rw [← h3]; exact b2.set _
  have v3 : s3[v]? = some (.ins c_Vault [(d_cell_row, .tup (V.cells.map cellD)), (d_deed_row, .tup (V.deeds.map Dd.d))]) := by rw [← h3]; exact set_get v2
  have c3 := b3.get ec nvc
  clear h3 b2 v2 c2 d2
  simp! [c3]
  refine cmp_map (F := fun x : Nat × Nat => .int x.1) c3 (by omega) (fun e s P h => by simp!; exact h) (fun x mx s Q' ks h => by simp! [cellD]; exact h) ?_
  have v3' := get_app [.lst (V.cells.map fun x : Nat × Nat => .int x.1)] v3
  have b3' := b3.keep (.new _ [.lst (V.cells.map fun x : Nat × Nat => .int x.1)])
  simp! [v3']
  generalize h4 : List.set _ v _ = s4
  have b4 : Kb v st s4 := by rw [← h4]; exact b3'.set _
  have v4 : s4[v]? = some (.ins c_Vault [(d_cell_row, .tup (V.cells.map cellD)), (d_deed_row, .tup (V.deeds.map Dd.d)), (d_size_row, .tup (V.cells.map fun x => .int x.1))]) := by rw [← h4]; exact set_get v3'
  have c4 := b4.get ec nvc
  clear h4 b3 b3' v3 v3' c3
  simp! [c4]
  refine cmp_map (F := fun x : Nat × Nat => .int x.2) c4 (by omega) (fun e s P h => by simp!; exact h) (fun x mx s Q' ks h => by simp! [cellD]; exact h) ?_
  have v4' := get_app [.lst (V.cells.map fun x : Nat × Nat => .int x.2)] v4
  have b4' := b4.keep (.new _ [.lst (V.cells.map fun x : Nat × Nat => .int x.2)])
  simp! [v4']
  generalize h5 : List.set _ v _ = s5
  have b5 : Kb v st s5 := by rw [← h5]; exact b4'.set _
  have v5 : s5[v]? = some (.ins c_Vault [(d_cell_row, .tup (V.cells.map cellD)), (d_deed_row, .tup (V.deeds.map Dd.d)), (d_size_row, .tup (V.cells.map fun x => .int x.1)), (d_begin, .tup (V.cells.map fun x => .int x.2))]) := by rw [← h5]; exact set_get v4'
  have d5 := b5.get ed nvd
  clear h5 b4 b4' v4 v4' c4
  have ndk : (V.deeds.map fun x : Dd => D.str x.nm).Nodup := by
    have := List.Pairwise.map (S := fun a b => a ≠ b) D.str (fun a b (h : a ≠ b) => fun e => h (by injection e)) ok.nd
    rw [List.map_map] at this
    exact this
  simp! [d5]
  refine dcm_map (A := fun x : Dd => .str x.nm) (B := fun x : Dd => .int x.ch) d5 (by omega) ndk (fun _ _ => rfl) (fun e s P h => by simp!; exact h) (fun x mx s Q' ks h => by simp! [Dd.d]; exact h) (fun x mx s Q' ks h => by simp! [Dd.d]; exact h) ?_
  have v5' := get_app [.dic V.chD] v5
  have b5' := b5.keep (.new _ [.dic V.chD])
  have t5' : (s5 ++ [O.dic V.chD])[s5.length]? = some (.dic V.chD) := get_snoc _ _
  have tv5 : s5.length ≠ v := by have := lt_of_get v5; omega
  generalize s5.length = ct at t5' tv5 ⊢
  rw [show (s5 ++ [O.dic (V.deeds.map fun x : Dd => (D.str x.nm, D.int x.ch))]) = s5 ++ [O.dic V.chD] from rfl]
  simp! [v5']
  generalize h6 : List.set _ v _ = s6
  have b6 : Kb v st s6 := by rw [← h6]; exact b5'.set _
  have v6 : s6[v]? = some (.ins c_Vault [(d_cell_row, .tup (V.cells.map cellD)), (d_deed_row, .tup (V.deeds.map Dd.d)), (d_size_row, .tup (V.cells.map fun x => .int x.1)), (d_begin, .tup (V.cells.map fun x => .int x.2)), (d_choice_table, .ref ct)]) := by rw [← h6]; exact set_get v5'
  have t6 : s6[ct]? = some (.dic V.chD) := by rw [← h6]; exact get_set t5' (Ne.symm tv5)
  have d6 := b6.get ed nvd
  clear h6 b5 b5' v5 v5' d5 t5'
  simp! [d6]
  refine dcm_map (A := fun x : Dd => .str x.nm) (B := fun x : Dd => .tup (Rw.ds x.rows)) d6 (by omega) ndk (fun _ _ => rfl) (fun e s P h => by simp!; exact h) (fun x mx s Q' ks h => by simp! [Dd.d]; exact h) (fun x mx s Q' ks h => by simp! [Dd.d]; exact h) ?_
  have v6' := get_app [.dic V.boD] v6
  have b6' := b6.keep (.new _ [.dic V.boD])
  have t6' := get_app [.dic V.boD] t6
  have u6' : (s6 ++ [O.dic V.boD])[s6.length]? = some (.dic V.boD) := get_snoc _ _
  have uv6 : s6.length ≠ v := by have := lt_of_get v6; omega
  generalize s6.length = bt at u6' uv6 ⊢
  rw [show (s6 ++ [O.dic (V.deeds.map fun x : Dd => (D.str x.nm, D.tup (Rw.ds x.rows)))]) = s6 ++ [O.dic V.boD] from rfl]
  simp! [v6']
  generalize h7 : List.set _ v _ = s7
  have b7 : Kb v st s7 := by rw [← h7]; exact b6'.set _
  have v7 : s7[v]? = some (.ins c_Vault [(d_cell_row, .tup (V.cells.map cellD)), (d_deed_row, .tup (V.deeds.map Dd.d)), (d_size_row, .tup (V.cells.map fun x => .int x.1)), (d_begin, .tup (V.cells.map fun x => .int x.2)), (d_choice_table, .ref ct), (d_body_table, .ref bt)]) := by rw [← h7]; exact set_get v6'
  have t7 : s7[ct]? = some (.dic V.chD) := by rw [← h7]; exact get_set t6' (Ne.symm tv5)
  have u7 : s7[bt]? = some (.dic V.boD) := by rw [← h7]; exact get_set u6' (Ne.symm uv6)
  have d7 := b7.get ed nvd
  clear h7 b6 b6' v6 v6' d6 t6 t6' u6'
  simp! [d7]
  refine cmp_map (F := fun x : Dd => .bl (Rw.hasCs x.rows)) d7 (by omega) (fun e s P h => by simp!; exact h) (fun x mx s Q' ks h => by
    simp! [Dd.d]
    exact hascoin 12 (k := k + 37) (ok.deed x mx).rows h) ?_
  have v7' := get_app [.lst (V.deeds.map fun x : Dd => .bl (Rw.hasCs x.rows))] v7
  have b7' := b7.keep (.new _ [.lst (V.deeds.map fun x : Dd => .bl (Rw.hasCs x.rows))])
  have t7' := get_app [.lst (V.deeds.map fun x : Dd => .bl (Rw.hasCs x.rows))] t7
  have u7' := get_app [.lst (V.deeds.map fun x : Dd => .bl (Rw.hasCs x.rows))] u7
  simp!
  refine ⟨V.deeds.map fun x => Rw.hasCs x.rows, by rw [List.map_map]; rfl, ?_⟩
  simp! [v7']
  refine hq _ (b7'.set _) ⟨ok, ct, bt, ?_, get_set t7' (Ne.symm tv5), get_set u7' (Ne.symm uv6)⟩
  rw [set_get v7']
  unfold Vt.o
  rw [List.any_map]
  rfl
end Y.K_k12
set_option linter.all false
set_option maxHeartbeats 4000000
set_option maxRecDepth 100000
namespace Y.K_k12
open Y PySem
local macro_rules
  | `(tactic| simp! [$ls,*]) => `(tactic| simp (implicitDefEqProofs := false) (dsimp := false) (failIfUnchanged := false) only [lz1, z_ifT, z_ifF, k_c0, k_c1, k_c2, k_c3, k_c4, k_c5, k_c6, k_few0, k_fewS, k_lkm, k_pf0, k_pfh, k_pfm, k_cls, k_clsO, ks_nx, ks_rt, ks_bk, ks_ct, ks_xc, kl_nx, kl_rt, kl_bk, kl_ct, kl_xc, kc_nx, kc_rt, kc_xc, kt_nx, kt_rt, kt_bk, kt_ct, kt_xc, kh_nx, kh_rt, un_n, un_s, isNon_1, isNon_2, isNon_3, isNon_4, isNon_5, isNon_6, isNon_7, boolQ_1, intQ_1, optQ_1, lstQ_1, sqQ_1, sqQ_2, cntQ_1, cntQ_2, cntQ_3, dicQ_1, insQ_1, getIx_0, getIx_1, getIx_2, getIx_3, getIx_4, getIx_5, ixrQ_1, ixrQ_2, ixrQ_3, ixrQ_4, setIx_0, setIx_1, setIx_2, bindQ_nm, bindL_0, bindL_1, bindQ_tp, z_var, z_con, z_glo, z_bin, z_neg, z_cmp, z_chain, z_isN, z_notN, z_and, z_or, z_not, z_ife, z_call, z_make, methQ_1, z_meth, z_fld, z_pr, z_me, z_isi, z_idx, z_sli, z_abs0, z_tup, z_lst, z_dic, z_dcomp, z_fstr, z_efld, z_eisi, z_comp, z_Tcmp, z_Tchain, z_TisN, z_TnotN, z_Tand, z_Tor, z_Tnot, z_Ttv, z_nil, z_cons, z_Fnil, z_Fcons, z_Tsn, z_Ts1, z_rng1, int2Q_1, z_rng2, z_enm, z_zip, z_sq, z_Bnil, z_Bcons, z_asg, z_asgt, z_asg2, z_setf, z_seti, augQ_1, augQ_2, z_augn, z_augf, z_exp, z_ret, z_retN, z_if, z_for, z_whl, z_brk, z_cnt, z_pas, z_rais0, z_rais1, z_try, z_Hnil, z_Hcons, v_v0, v_vs, v_add, v_sub, v_mul, v_fdiv, v_mod, v_pow, v_sadd, v_tadd, v_ladd, v_lmul, v_int, v_intb, v_abs, v_max2, v_min2, v_stri, v_lens, v_lenm, v_len0, v_len1, v_len2, v_len3, v_len4, v_len5, v_len6, v_lenr, v_tupt, v_tupr, v_lstt, v_lstr, v_any, v_all, v_ixt, v_ixr, v_kon, v_seti, strQ_1, strQ_2, strQ_3, v_pts, v_ptn, v_sls, v_slt, v_slr, v_fld, v_setf, v_okl, v_oks, v_app, v_pop, v_lt, v_le, v_gt, v_ge, v_eq, v_ne, v_in, v_ni, v_eqii, v_eqss, v_eqbb, v_eqsi, v_eqis, v_eqni, v_eqin, v_eqns, v_eqsn, v_trn, v_trb, v_tri, v_trt, v_trr, v_trs, v_fms, v_fmi, v_inp, inrQ_1, inrQ_2, inrQ_3, v_inl, v_inK, v_ins, t_n, t_b, t_i, t_s, t_t, t_r, tyO_1, tyO_2, tyO_3, tyO_4, y_n, y_b, y_i, y_s, y_t, y_l, y_d, y_o, y_o1, y_o2, y_o3, y_o4, y_o5, y_o6, w_t, w_s, w_r, w_e, w_zs, w_zt, List.map_cons, List.map_nil, List.replicate_succ, List.replicate_zero, List.cons_append, List.nil_append, List.append_nil, List.set_cons_zero, List.set_cons_succ, List.any_cons, List.any_nil, List.lookup_cons_self, meT, reduceCtorEq, decide_true, decide_false, Bool.or_false, Bool.false_or, Bool.or_true, Bool.true_or, Bool.not_true, Bool.not_false, Bool.and_true, Bool.true_and, Bool.and_false, Bool.false_and, true_and, and_true, wipeE, Option.isSome_some, Option.isSome_none, List.getElem?_concat_length, Nat.reduceBEq, Int.reduceEq, Int.reduceLT, Int.reduceLE, Int.reduceNeg, glo_0, glo_1, glo_2, glo_3, glo_4, glo_5, glo_6, glo_7, glo_8, konn_0, konq_0_0, konq_0_1, konq_0_2, konq_0_3, konq_0_4, konq_0_5, konq_0_6, konq_0_7, alt_0, alt_1, alt_2, alt_3, alt_4, alt_5, alt_6, alt_7, alt_8, exf_0, exf_1, exf_2, exf_3, exf_4, exf_5, c_PastError, c_NoName, c_NoState, c_HasCoins, c_NoVault, c_NoRow, c_Body, c_Walk, c_Vault, d_size_row, d_choice_table, d_coined, d_used, d_trace, d_cells, d_result, d_begin, d_deed_row, d_coin_count, d_row_count, d_many_cells, d_body_table, d_coins, d_held, d_cell_row, d_part, d_index, $ls,*])
local macro_rules
  | `(tactic| simp!) => `(tactic| simp (implicitDefEqProofs := false) (dsimp := false) (failIfUnchanged := false) only [lz1, z_ifT, z_ifF, k_c0, k_c1, k_c2, k_c3, k_c4, k_c5, k_c6, k_few0, k_fewS, k_lkm, k_pf0, k_pfh, k_pfm, k_cls, k_clsO, ks_nx, ks_rt, ks_bk, ks_ct, ks_xc, kl_nx, kl_rt, kl_bk, kl_ct, kl_xc, kc_nx, kc_rt, kc_xc, kt_nx, kt_rt, kt_bk, kt_ct, kt_xc, kh_nx, kh_rt, un_n, un_s, isNon_1, isNon_2, isNon_3, isNon_4, isNon_5, isNon_6, isNon_7, boolQ_1, intQ_1, optQ_1, lstQ_1, sqQ_1, sqQ_2, cntQ_1, cntQ_2, cntQ_3, dicQ_1, insQ_1, getIx_0, getIx_1, getIx_2, getIx_3, getIx_4, getIx_5, ixrQ_1, ixrQ_2, ixrQ_3, ixrQ_4, setIx_0, setIx_1, setIx_2, bindQ_nm, bindL_0, bindL_1, bindQ_tp, z_var, z_con, z_glo, z_bin, z_neg, z_cmp, z_chain, z_isN, z_notN, z_and, z_or, z_not, z_ife, z_call, z_make, methQ_1, z_meth, z_fld, z_pr, z_me, z_isi, z_idx, z_sli, z_abs0, z_tup, z_lst, z_dic, z_dcomp, z_fstr, z_efld, z_eisi, z_comp, z_Tcmp, z_Tchain, z_TisN, z_TnotN, z_Tand, z_Tor, z_Tnot, z_Ttv, z_nil, z_cons, z_Fnil, z_Fcons, z_Tsn, z_Ts1, z_rng1, int2Q_1, z_rng2, z_enm, z_zip, z_sq, z_Bnil, z_Bcons, z_asg, z_asgt, z_asg2, z_setf, z_seti, augQ_1, augQ_2, z_augn, z_augf, z_exp, z_ret, z_retN, z_if, z_for, z_whl, z_brk, z_cnt, z_pas, z_rais0, z_rais1, z_try, z_Hnil, z_Hcons, v_v0, v_vs, v_add, v_sub, v_mul, v_fdiv, v_mod, v_pow, v_sadd, v_tadd, v_ladd, v_lmul, v_int, v_intb, v_abs, v_max2, v_min2, v_stri, v_lens, v_lenm, v_len0, v_len1, v_len2, v_len3, v_len4, v_len5, v_len6, v_lenr, v_tupt, v_tupr, v_lstt, v_lstr, v_any, v_all, v_ixt, v_ixr, v_kon, v_seti, strQ_1, strQ_2, strQ_3, v_pts, v_ptn, v_sls, v_slt, v_slr, v_fld, v_setf, v_okl, v_oks, v_app, v_pop, v_lt, v_le, v_gt, v_ge, v_eq, v_ne, v_in, v_ni, v_eqii, v_eqss, v_eqbb, v_eqsi, v_eqis, v_eqni, v_eqin, v_eqns, v_eqsn, v_trn, v_trb, v_tri, v_trt, v_trr, v_trs, v_fms, v_fmi, v_inp, inrQ_1, inrQ_2, inrQ_3, v_inl, v_inK, v_ins, t_n, t_b, t_i, t_s, t_t, t_r, tyO_1, tyO_2, tyO_3, tyO_4, y_n, y_b, y_i, y_s, y_t, y_l, y_d, y_o, y_o1, y_o2, y_o3, y_o4, y_o5, y_o6, w_t, w_s, w_r, w_e, w_zs, w_zt, List.map_cons, List.map_nil, List.replicate_succ, List.replicate_zero, List.cons_append, List.nil_append, List.append_nil, List.set_cons_zero, List.set_cons_succ, List.any_cons, List.any_nil, List.lookup_cons_self, meT, reduceCtorEq, decide_true, decide_false, Bool.or_false, Bool.false_or, Bool.or_true, Bool.true_or, Bool.not_true, Bool.not_false, Bool.and_true, Bool.true_and, Bool.and_false, Bool.false_and, true_and, and_true, wipeE, Option.isSome_some, Option.isSome_none, List.getElem?_concat_length, Nat.reduceBEq, Int.reduceEq, Int.reduceLT, Int.reduceLE, Int.reduceNeg, glo_0, glo_1, glo_2, glo_3, glo_4, glo_5, glo_6, glo_7, glo_8, konn_0, konq_0_0, konq_0_1, konq_0_2, konq_0_3, konq_0_4, konq_0_5, konq_0_6, konq_0_7, alt_0, alt_1, alt_2, alt_3, alt_4, alt_5, alt_6, alt_7, alt_8, exf_0, exf_1, exf_2, exf_3, exf_4, exf_5, c_PastError, c_NoName, c_NoState, c_HasCoins, c_NoVault, c_NoRow, c_Body, c_Walk, c_Vault, d_size_row, d_choice_table, d_coined, d_used, d_trace, d_cells, d_result, d_begin, d_deed_row, d_coin_count, d_row_count, d_many_cells, d_body_table, d_coins, d_held, d_cell_row, d_part, d_index])
def Vt.st (V : Vt) (s : List Nat) : Prop := s.length = V.cells.length ∧ ∀ p ∈ V.cells.zip s, p.2 < p.1.1
def stD (s : List Nat) : D := .tup (s.map fun n : Nat => D.int n)
theorem zip_D : ∀ (cs : List (Nat × Nat)) (s : List Nat), List.zipWith (fun u v => D.tup [u, v]) (cs.map fun c : Nat × Nat => D.int c.1) (s.map fun n : Nat => D.int n) = ((cs.zip s).map fun p => (D.int p.1.1, D.int p.2)).map fun p => D.tup [p.1, p.2]
  | [], s => rfl
  | c :: cs, [] => rfl
  | c :: cs, n :: s => by
    rw [List.map_cons, List.map_cons, zw_cons, zip_D cs s]
    rfl
theorem isstateof {k : Nat} {cs : List (Nat × Nat)} {s : List Nat} {st : Store} {Q : QE} {X : QX} (hl : s.length = cs.length) (h : ∀ p ∈ cs.zip s, p.2 < p.1.1) (hq : Q (.bl true) st) : Call T (k + 2) n_is_state_of [.tup (cs.map fun c : Nat × Nat => D.int c.1), .tup (s.map fun n : Nat => D.int n)] st Q X := by
  refine call_z f_is_state_of.fn rfl rfl ?_
  show wpB T (Call T (k + 1)) none b_is_state_of [some (.tup (cs.map fun c : Nat × Nat => D.int c.1)), some (.tup (s.map fun n : Nat => D.int n)), none, none] st _
  unfold b_is_state_of
  have t1 : decide (((s.map fun n : Nat => D.int n).length : Int) = ((cs.map fun c : Nat × Nat => D.int c.1).length : Int)) = true := decide_eq_true (by simp [hl])
  simp! [t1, zip_D]
  refine for_tp2 (fun r env s' => ∃ (ps : List ((Nat × Nat) × Nat)) (o1 o2 : Option D), r = ps.map (fun p => (D.int p.1.1, D.int p.2)) ∧ (∀ p ∈ ps, p.2 < p.1.1) ∧ s' = st ∧ env = [some (.tup (cs.map fun c : Nat × Nat => D.int c.1)), some (.tup (s.map fun n : Nat => D.int n)), o1, o2]) ⟨_, none, none, rfl, h, rfl, rfl⟩ (fun x y r env s' N ⟨ps, o1, o2, e1, e2, e3, e4⟩ hN => ?_) (fun env s' ⟨ps, o1, o2, e1, e2, e3, e4⟩ => ?_)
  · subst e3 e4
    cases ps with
    | nil => cases e1
    | cons p ps =>
      cases e1
      have u1 : decide (0 ≤ (p.2 : Int)) = true := decide_eq_true (by omega)
      have u2 : decide ((p.2 : Int) < (p.1.1 : Int)) = true := decide_eq_true (by have := e2 p List.mem_cons_self; omega)
      simp!
      refine isint ?_
      simp! [u1, u2]
      exact hN _ _ ⟨ps, _, _, rfl, fun q m => e2 q (List.mem_cons_of_mem _ m), rfl, rfl⟩
  · subst e3 e4
    simp!
    exact hq
theorem IsV.flds {st : Store} {v : Nat} {V : Vt} (h : IsV st v V) : ∃ ct bt, st[v]? = some (.ins c_Vault [(d_cell_row, .tup (V.cells.map cellD)), (d_deed_row, .tup (V.deeds.map Dd.d)), (d_size_row, .tup (V.cells.map fun c => .int c.1)), (d_begin, .tup (V.cells.map fun c => .int c.2)), (d_choice_table, .ref ct), (d_body_table, .ref bt), (d_coined, .bl (V.deeds.any fun x => Rw.hasCs x.rows))]) ∧ st[ct]? = some (.dic V.chD) ∧ st[bt]? = some (.dic V.boD) := h.at_
theorem isstate {k v : Nat} {V : Vt} {s : List Nat} {st : Store} {Q : QE} {X : QX} (hv : IsV st v V) (hs : V.st s) (hq : Q (.bl true) st) : Call T (k + 3) n_is_state [.ref v, stD s] st Q X := by
  obtain ⟨ct, bt, e1, e2, e3⟩ := hv.flds
  refine call_z f_is_state.fn rfl rfl ?_
  show wpB T (Call T (k + 2)) none b_is_state [some (.ref v), some (stD s)] st _
  unfold b_is_state stD
  simp! [e1]
  refine isstateof hs.1 hs.2 ?_
  simp!
  exact hq
theorem checkstate {k v : Nat} {V : Vt} {s : List Nat} {st : Store} {Q : QE} {X : QX} (hv : IsV st v V) (hs : V.st s) (hq : Q .non st) : Call T (k + 4) n_check_state [.ref v, stD s] st Q X := by
  refine call_z f_check_state.fn rfl rfl ?_
  show wpB T (Call T (k + 3)) none b_check_state [some (.ref v), some (stD s)] st _
  unfold b_check_state
  simp!
  refine isstate hv hs ?_
  simp!
  exact hq
structure CallOf (V : Vt) (x : Dd) (n : Nat) : Prop where
  mem : x ∈ V.deeds
  lt : n < x.ch
def calD (x : Dd) (n : Nat) : D := .tup [.str x.nm, .int n]
theorem nd_keys {V : Vt} (ok : V.ok) {B : Dd → D} : ((V.deeds.map fun x => (D.str x.nm, B x)).map (·.1)).Nodup := by
  rw [List.map_map]
  have := List.Pairwise.map (S := fun a b => a ≠ b) D.str (fun a b (h : a ≠ b) => fun e => h (by injection e)) ok.nd
  rw [List.map_map] at this
  exact this
theorem chGet {V : Vt} (ok : V.ok) {x : Dd} (m : x ∈ V.deeds) : getK V.chD (.str x.nm) = some (.int x.ch) := getK_mem (nd_keys ok) (List.mem_map.mpr ⟨x, m, rfl⟩)
theorem boGet {V : Vt} (ok : V.ok) {x : Dd} (m : x ∈ V.deeds) : getK V.boD (.str x.nm) = some (.tup (Rw.ds x.rows)) := getK_mem (nd_keys ok) (List.mem_map.mpr ⟨x, m, rfl⟩)
theorem iscall {k v n : Nat} {V : Vt} {x : Dd} {st : Store} {Q : QE} {X : QX} (hv : IsV st v V) (hc : CallOf V x n) (hq : Q (.bl true) st) : Call T (k + 2) n_is_call [.ref v, calD x n] st Q X := by
  obtain ⟨ct, bt, e1, e2, e3⟩ := hv.flds
  refine call_z f_is_call.fn rfl rfl ?_
  show wpB T (Call T (k + 1)) none b_is_call [some (.ref v), some (calD x n)] st _
  unfold b_is_call calD
  have u1 : decide (0 ≤ (n : Int)) = true := decide_eq_true (by omega)
  have u2 : decide ((n : Int) < (x.ch : Int)) = true := decide_eq_true (by have := hc.lt; omega)
  simp! [e1]
  refine isint ?_
  simp! [e1, e2, chGet hv.ok hc.mem, u1, u2]
  exact hq
end Y.K_k12
set_option linter.all false
set_option maxHeartbeats 4000000
set_option maxRecDepth 100000
namespace Y.K_k12
open Y PySem
local macro_rules
  | `(tactic| simp! [$ls,*]) => `(tactic| simp (implicitDefEqProofs := false) (dsimp := false) (failIfUnchanged := false) only [lz1, z_ifT, z_ifF, k_c0, k_c1, k_c2, k_c3, k_c4, k_c5, k_c6, k_few0, k_fewS, k_lkm, k_pf0, k_pfh, k_pfm, k_cls, k_clsO, ks_nx, ks_rt, ks_bk, ks_ct, ks_xc, kl_nx, kl_rt, kl_bk, kl_ct, kl_xc, kc_nx, kc_rt, kc_xc, kt_nx, kt_rt, kt_bk, kt_ct, kt_xc, kh_nx, kh_rt, un_n, un_s, isNon_1, isNon_2, isNon_3, isNon_4, isNon_5, isNon_6, isNon_7, boolQ_1, intQ_1, optQ_1, lstQ_1, sqQ_1, sqQ_2, cntQ_1, cntQ_2, cntQ_3, dicQ_1, insQ_1, getIx_0, getIx_1, getIx_2, getIx_3, getIx_4, getIx_5, ixrQ_1, ixrQ_2, ixrQ_3, ixrQ_4, setIx_0, setIx_1, setIx_2, bindQ_nm, bindL_0, bindL_1, bindQ_tp, z_var, z_con, z_glo, z_bin, z_neg, z_cmp, z_chain, z_isN, z_notN, z_and, z_or, z_not, z_ife, z_call, z_make, methQ_1, z_meth, z_fld, z_pr, z_me, z_isi, z_idx, z_sli, z_abs0, z_tup, z_lst, z_dic, z_dcomp, z_fstr, z_efld, z_eisi, z_comp, z_Tcmp, z_Tchain, z_TisN, z_TnotN, z_Tand, z_Tor, z_Tnot, z_Ttv, z_nil, z_cons, z_Fnil, z_Fcons, z_Tsn, z_Ts1, z_rng1, int2Q_1, z_rng2, z_enm, z_zip, z_sq, z_Bnil, z_Bcons, z_asg, z_asgt, z_asg2, z_setf, z_seti, augQ_1, augQ_2, z_augn, z_augf, z_exp, z_ret, z_retN, z_if, z_for, z_whl, z_brk, z_cnt, z_pas, z_rais0, z_rais1, z_try, z_Hnil, z_Hcons, v_v0, v_vs, v_add, v_sub, v_mul, v_fdiv, v_mod, v_pow, v_sadd, v_tadd, v_ladd, v_lmul, v_int, v_intb, v_abs, v_max2, v_min2, v_stri, v_lens, v_lenm, v_len0, v_len1, v_len2, v_len3, v_len4, v_len5, v_len6, v_lenr, v_tupt, v_tupr, v_lstt, v_lstr, v_any, v_all, v_ixt, v_ixr, v_kon, v_seti, strQ_1, strQ_2, strQ_3, v_pts, v_ptn, v_sls, v_slt, v_slr, v_fld, v_setf, v_okl, v_oks, v_app, v_pop, v_lt, v_le, v_gt, v_ge, v_eq, v_ne, v_in, v_ni, v_eqii, v_eqss, v_eqbb, v_eqsi, v_eqis, v_eqni, v_eqin, v_eqns, v_eqsn, v_trn, v_trb, v_tri, v_trt, v_trr, v_trs, v_fms, v_fmi, v_inp, inrQ_1, inrQ_2, inrQ_3, v_inl, v_inK, v_ins, t_n, t_b, t_i, t_s, t_t, t_r, tyO_1, tyO_2, tyO_3, tyO_4, y_n, y_b, y_i, y_s, y_t, y_l, y_d, y_o, y_o1, y_o2, y_o3, y_o4, y_o5, y_o6, w_t, w_s, w_r, w_e, w_zs, w_zt, List.map_cons, List.map_nil, List.replicate_succ, List.replicate_zero, List.cons_append, List.nil_append, List.append_nil, List.set_cons_zero, List.set_cons_succ, List.any_cons, List.any_nil, List.lookup_cons_self, meT, reduceCtorEq, decide_true, decide_false, Bool.or_false, Bool.false_or, Bool.or_true, Bool.true_or, Bool.not_true, Bool.not_false, Bool.and_true, Bool.true_and, Bool.and_false, Bool.false_and, true_and, and_true, wipeE, Option.isSome_some, Option.isSome_none, List.getElem?_concat_length, Nat.reduceBEq, Int.reduceEq, Int.reduceLT, Int.reduceLE, Int.reduceNeg, glo_0, glo_1, glo_2, glo_3, glo_4, glo_5, glo_6, glo_7, glo_8, konn_0, konq_0_0, konq_0_1, konq_0_2, konq_0_3, konq_0_4, konq_0_5, konq_0_6, konq_0_7, alt_0, alt_1, alt_2, alt_3, alt_4, alt_5, alt_6, alt_7, alt_8, exf_0, exf_1, exf_2, exf_3, exf_4, exf_5, c_PastError, c_NoName, c_NoState, c_HasCoins, c_NoVault, c_NoRow, c_Body, c_Walk, c_Vault, d_size_row, d_choice_table, d_coined, d_used, d_trace, d_cells, d_result, d_begin, d_deed_row, d_coin_count, d_row_count, d_many_cells, d_body_table, d_coins, d_held, d_cell_row, d_part, d_index, $ls,*])
local macro_rules
  | `(tactic| simp!) => `(tactic| simp (implicitDefEqProofs := false) (dsimp := false) (failIfUnchanged := false) only [lz1, z_ifT, z_ifF, k_c0, k_c1, k_c2, k_c3, k_c4, k_c5, k_c6, k_few0, k_fewS, k_lkm, k_pf0, k_pfh, k_pfm, k_cls, k_clsO, ks_nx, ks_rt, ks_bk, ks_ct, ks_xc, kl_nx, kl_rt, kl_bk, kl_ct, kl_xc, kc_nx, kc_rt, kc_xc, kt_nx, kt_rt, kt_bk, kt_ct, kt_xc, kh_nx, kh_rt, un_n, un_s, isNon_1, isNon_2, isNon_3, isNon_4, isNon_5, isNon_6, isNon_7, boolQ_1, intQ_1, optQ_1, lstQ_1, sqQ_1, sqQ_2, cntQ_1, cntQ_2, cntQ_3, dicQ_1, insQ_1, getIx_0, getIx_1, getIx_2, getIx_3, getIx_4, getIx_5, ixrQ_1, ixrQ_2, ixrQ_3, ixrQ_4, setIx_0, setIx_1, setIx_2, bindQ_nm, bindL_0, bindL_1, bindQ_tp, z_var, z_con, z_glo, z_bin, z_neg, z_cmp, z_chain, z_isN, z_notN, z_and, z_or, z_not, z_ife, z_call, z_make, methQ_1, z_meth, z_fld, z_pr, z_me, z_isi, z_idx, z_sli, z_abs0, z_tup, z_lst, z_dic, z_dcomp, z_fstr, z_efld, z_eisi, z_comp, z_Tcmp, z_Tchain, z_TisN, z_TnotN, z_Tand, z_Tor, z_Tnot, z_Ttv, z_nil, z_cons, z_Fnil, z_Fcons, z_Tsn, z_Ts1, z_rng1, int2Q_1, z_rng2, z_enm, z_zip, z_sq, z_Bnil, z_Bcons, z_asg, z_asgt, z_asg2, z_setf, z_seti, augQ_1, augQ_2, z_augn, z_augf, z_exp, z_ret, z_retN, z_if, z_for, z_whl, z_brk, z_cnt, z_pas, z_rais0, z_rais1, z_try, z_Hnil, z_Hcons, v_v0, v_vs, v_add, v_sub, v_mul, v_fdiv, v_mod, v_pow, v_sadd, v_tadd, v_ladd, v_lmul, v_int, v_intb, v_abs, v_max2, v_min2, v_stri, v_lens, v_lenm, v_len0, v_len1, v_len2, v_len3, v_len4, v_len5, v_len6, v_lenr, v_tupt, v_tupr, v_lstt, v_lstr, v_any, v_all, v_ixt, v_ixr, v_kon, v_seti, strQ_1, strQ_2, strQ_3, v_pts, v_ptn, v_sls, v_slt, v_slr, v_fld, v_setf, v_okl, v_oks, v_app, v_pop, v_lt, v_le, v_gt, v_ge, v_eq, v_ne, v_in, v_ni, v_eqii, v_eqss, v_eqbb, v_eqsi, v_eqis, v_eqni, v_eqin, v_eqns, v_eqsn, v_trn, v_trb, v_tri, v_trt, v_trr, v_trs, v_fms, v_fmi, v_inp, inrQ_1, inrQ_2, inrQ_3, v_inl, v_inK, v_ins, t_n, t_b, t_i, t_s, t_t, t_r, tyO_1, tyO_2, tyO_3, tyO_4, y_n, y_b, y_i, y_s, y_t, y_l, y_d, y_o, y_o1, y_o2, y_o3, y_o4, y_o5, y_o6, w_t, w_s, w_r, w_e, w_zs, w_zt, List.map_cons, List.map_nil, List.replicate_succ, List.replicate_zero, List.cons_append, List.nil_append, List.append_nil, List.set_cons_zero, List.set_cons_succ, List.any_cons, List.any_nil, List.lookup_cons_self, meT, reduceCtorEq, decide_true, decide_false, Bool.or_false, Bool.false_or, Bool.or_true, Bool.true_or, Bool.not_true, Bool.not_false, Bool.and_true, Bool.true_and, Bool.and_false, Bool.false_and, true_and, and_true, wipeE, Option.isSome_some, Option.isSome_none, List.getElem?_concat_length, Nat.reduceBEq, Int.reduceEq, Int.reduceLT, Int.reduceLE, Int.reduceNeg, glo_0, glo_1, glo_2, glo_3, glo_4, glo_5, glo_6, glo_7, glo_8, konn_0, konq_0_0, konq_0_1, konq_0_2, konq_0_3, konq_0_4, konq_0_5, konq_0_6, konq_0_7, alt_0, alt_1, alt_2, alt_3, alt_4, alt_5, alt_6, alt_7, alt_8, exf_0, exf_1, exf_2, exf_3, exf_4, exf_5, c_PastError, c_NoName, c_NoState, c_HasCoins, c_NoVault, c_NoRow, c_Body, c_Walk, c_Vault, d_size_row, d_choice_table, d_coined, d_used, d_trace, d_cells, d_result, d_begin, d_deed_row, d_coin_count, d_row_count, d_many_cells, d_body_table, d_coins, d_held, d_cell_row, d_part, d_index])
structure Wk where
  cells : List Nat
  r : Rg
  used : Nat
  trace : List D
def natD (n : Nat) : D := .int n
abbrev Res := Option Int × Wk
def timesOf (f : Wk → Res) : Nat → Wk → Res
  | 0, W => (none, W)
  | n + 1, W => match f W with
    | (some a, W') => (some a, W')
    | (none, W') => timesOf f n W'
def rowsOf (f : Rw → Wk → Res) : List Rw → Wk → Res
  | [], W => (none, W)
  | r :: rs, W => match f r W with
    | (some a, W') => (some a, W')
    | (none, W') => rowsOf f rs W'
def tell (w : List Nat) (c came : Nat) (cells : List Nat) : D := .tup [.str w, natD c, natD came, .tup (cells.map natD)]
def szAt (sz : List Nat) (c : Nat) : Nat := sz.getD c 1
def inCell (sz : List Nat) (c : Nat) (v : Int) : Nat := (v % (szAt sz c : Int)).toNat
def stepRw (sz : List Nat) (L : List Int) (rec : List Rw → Wk → Res) : Rw → Wk → Res
  | .ans e, W => (some (e.val W.r), W)
  | .ife e a b, W => if e.val W.r ≠ 0 then rec a W else rec b W
  | .times e a, W => timesOf (rec a) (e.val W.r).toNat W
  | .coin r, W => if W.used = L.length then (some (-1), W) else (none, { W with r := W.r.put r (L.getD W.used 0), used := W.used + 1 })
  | .keep r e, W => (none, { W with r := W.r.put r (e.val W.r) })
  | .set c e, W => (none, { W with cells := W.cells.set c (inCell sz c (e.val W.r)), trace := W.trace ++ [tell wSet c (inCell sz c (e.val W.r)) (W.cells.set c (inCell sz c (e.val W.r)))] })
  | .read r c, W => (none, { W with r := W.r.put r (W.cells.getD c 0), trace := W.trace ++ [tell wRead c (W.cells.getD c 0) W.cells] })
  | .swap r c e f, W => if (W.cells.getD c 0 : Int) = e.val W.r then
      (none, { W with cells := W.cells.set c (inCell sz c (f.val W.r)), r := W.r.put r 1, trace := W.trace ++ [tell wSwap c 1 (W.cells.set c (inCell sz c (f.val W.r)))] })
    else (none, { W with r := W.r.put r 0, trace := W.trace ++ [tell wSwap c 0 W.cells] })
def doRows (sz : List Nat) (L : List Int) : Nat → List Rw → Wk → Res
  | 0, _, W => (none, W)
  | h + 1, rows, W => rowsOf (stepRw sz L (doRows sz L h)) rows W
structure Wk.ok (sz : List Nat) (L : List Int) (W : Wk) : Prop where
  len : W.cells.length = sz.length
  cell : ∀ p ∈ sz.zip W.cells, p.2 < p.1
  r : W.r.ok
  used : W.used ≤ L.length
structure SzOk (sz : List Nat) (L : List Int) : Prop where
  sz : ∀ s ∈ sz, 1 ≤ s ∧ s ≤ 9
  coin : ∀ c ∈ L, c = 0 ∨ c = 1
theorem zip_get {a b : List Nat} {i : Nat} (h : ∀ p ∈ a.zip b, p.2 < p.1) (l : a.length = b.length) (hi : i < a.length) : b[i]'(by omega) < a[i] :=
  h (a[i], b[i]'(by omega)) (by
    rw [List.mem_iff_getElem]
    exact ⟨i, by simp; omega, by simp⟩)
theorem cell_lt {sz : List Nat} {L : List Int} {W : Wk} (so : SzOk sz L) (ok : W.ok sz L) {c : Nat} (hc : c < sz.length) : W.cells.getD c 0 ≤ 8 := by
  have h := zip_get ok.cell ok.len.symm hc
  have s9 := so.sz _ (List.getElem_mem hc)
  have e : W.cells.getD c 0 = W.cells[c]'(by have := ok.len; omega) := by rw [List.getD_eq_getElem?_getD, List.getElem?_eq_getElem (by have := ok.len; omega)]; rfl
  omega
theorem inCell_lt {sz : List Nat} {L : List Int} (so : SzOk sz L) {c : Nat} (hc : c < sz.length) (v : Int) : inCell sz c v < sz[c] := by
  have s9 := so.sz _ (List.getElem_mem hc)
  have e : szAt sz c = sz[c] := by unfold szAt; rw [List.getD_eq_getElem?_getD, List.getElem?_eq_getElem hc]; rfl
  unfold inCell
  rw [e]
  have := Int.emod_lt_of_pos v (show (0 : Int) < (sz[c] : Int) by omega)
  have := Int.emod_nonneg v (show (sz[c] : Int) ≠ 0 by omega)
  omega
theorem zip_set {sz : List Nat} {cells : List Nat} {c v : Nat} (h : ∀ p ∈ sz.zip cells, p.2 < p.1) (l : cells.length = sz.length) (hc : c < sz.length) (hv : v < sz[c]) : ∀ p ∈ sz.zip (cells.set c v), p.2 < p.1 := by
  intro p hp
  obtain ⟨i, hi, e⟩ := List.mem_iff_getElem.mp hp
  simp only [List.length_zip, List.length_set] at hi
  rw [← e, List.getElem_zip, List.getElem_set]
  dsimp only
  split
  · rename_i z; subst z; exact hv
  · exact zip_get h l.symm (by omega)
theorem Wk.ok.ok_set {sz : List Nat} {L : List Int} {W : Wk} (so : SzOk sz L) (ok : W.ok sz L) {c : Nat} (hc : c < sz.length) (v : Int) (r : Rg) (hr : r.ok) (t : List D) : ({ W with cells := W.cells.set c (inCell sz c v), r := r, trace := t } : Wk).ok sz L :=
  ⟨by simp [ok.len], zip_set ok.cell ok.len hc (inCell_lt so hc v), hr, ok.used⟩
theorem Wk.ok.ok_r {sz : List Nat} {L : List Int} {W : Wk} (ok : W.ok sz L) (r : Rg) (hr : r.ok) (t : List D) : ({ W with r := r, trace := t } : Wk).ok sz L := ⟨ok.len, ok.cell, hr, ok.used⟩
theorem step_ok {sz : List Nat} {L : List Int} (so : SzOk sz L) {h depth loops : Nat} {rec : List Rw → Wk → Res} (ih : ∀ rows depth loops W, rowsOk h sz.length depth loops rows → W.ok sz L → (rec rows W).2.ok sz L) {r : Rw} (hr : rowOk h sz.length depth loops r) {W : Wk} (ok : W.ok sz L) : (stepRw sz L rec r W).2.ok sz L := by
  cases r with
  | ans e => exact ok
  | ife e a b =>
    show (if e.val W.r ≠ 0 then rec a W else rec b W).2.ok sz L
    split
    · exact ih _ _ _ _ hr.2.1 ok
    · exact ih _ _ _ _ hr.2.2 ok
  | times e a =>
    show (timesOf (rec a) (e.val W.r).toNat W).2.ok sz L
    generalize (e.val W.r).toNat = n
    induction n generalizing W with
    | zero => exact ok
    | succ n ihn =>
      have q := ih _ _ _ _ hr.2.2 ok
      unfold timesOf
      split
      · rename_i e; rw [e] at q; exact q
      · rename_i e; rw [e] at q; exact ihn q
  | coin r =>
    show (if W.used = L.length then (some (-1), W) else (none, { W with r := W.r.put r (L.getD W.used 0), used := W.used + 1 }) : Res).2.ok sz L
    split
    · exact ok
    · rename_i ne
      have lt : W.used < L.length := by have := ok.used; omega
      have c := so.coin _ (List.getElem_mem lt)
      have e : L.getD W.used 0 = L[W.used] := by rw [List.getD_eq_getElem?_getD, List.getElem?_eq_getElem lt]; rfl
      exact ⟨ok.len, ok.cell, Rg.put_ok ok.r _ (by rw [e]; omega), lt⟩
  | keep r e => exact ok.ok_r _ (Rg.put_ok ok.r _ (Ex.val_ok ok.r hr.2)) _
  | set c e => exact ok.ok_set so hr.1 _ _ ok.r _
  | read r c => exact ok.ok_r _ (Rg.put_ok ok.r _ (by have := cell_lt so ok hr.2; omega)) _
  | swap r c e f =>
    show (if (W.cells.getD c 0 : Int) = e.val W.r then _ else _ : Res).2.ok sz L
    split
    · exact ok.ok_set so hr.2.1 _ _ (Rg.put_ok ok.r _ (by decide)) _
    · exact ok.ok_r _ (Rg.put_ok ok.r _ (by decide)) _
theorem rows_ok {sz : List Nat} {L : List Int} (so : SzOk sz L) : ∀ (h : Nat) (rows : List Rw) (depth loops : Nat) (W : Wk), rowsOk h sz.length depth loops rows → W.ok sz L → (doRows sz L h rows W).2.ok sz L := by
  intro h
  induction h with
  | zero => intro rows depth loops W _ ok; exact ok
  | succ h ih =>
    intro rows depth loops W hr ok
    have hr' : ∀ r ∈ rows, rowOk h sz.length depth loops r := fun r m => rowsOk_row hr m
    clear hr
    show (rowsOf _ rows W).2.ok sz L
    induction rows generalizing W with
    | nil => exact ok
    | cons r rs ihr =>
      have q := step_ok so (rec := doRows sz L h) (fun rows depth loops W => ih rows depth loops W) (hr' r List.mem_cons_self) ok
      unfold rowsOf
      split
      · rename_i e; rw [e] at q; exact q
      · rename_i e; rw [e] at q; exact ihr _ q fun r m => hr' r (List.mem_cons_of_mem _ m)
def wkO (sz : List Nat) (cl hd tr : Nat) (co : D) (used : Nat) : O := .ins c_Walk [(d_size_row, .tup (sz.map natD)), (d_cells, .ref cl), (d_held, .ref hd), (d_coins, co), (d_used, natD used), (d_trace, .ref tr)]
structure WAt (sz : List Nat) (L : List Int) (w cl hd tr : Nat) (co : D) (st : Store) (W : Wk) : Prop where
  o : st[w]? = some (wkO sz cl hd tr co W.used)
  c : st[cl]? = some (.lst (W.cells.map natD))
  h : st[hd]? = some (.dic W.r.dc)
  t : st[tr]? = some (.lst W.trace)
  ne : cl ≠ tr
  co : (∃ g, co = .ref g ∧ g ≠ cl ∧ g ≠ tr ∧ st[g]? = some (.lst (L.map D.int))) ∨ co = .tup (L.map D.int)
structure K4 (w cl hd tr : Nat) (a b : Store) : Prop where
  len : a.length ≤ b.length
  same : ∀ g, g ≠ w → g ≠ cl → g ≠ hd → g ≠ tr → g < a.length → b[g]? = a[g]?
theorem K4.refl (w cl hd tr : Nat) (a : Store) : K4 w cl hd tr a a := ⟨Nat.le_refl _, fun _ _ _ _ _ _ => rfl⟩
theorem K4.trans {w cl hd tr : Nat} {a b c : Store} (x : K4 w cl hd tr a b) (y : K4 w cl hd tr b c) : K4 w cl hd tr a c := ⟨Nat.le_trans x.len y.len, fun g h1 h2 h3 h4 l => (y.same g h1 h2 h3 h4 (Nat.lt_of_lt_of_le l x.len)).trans (x.same g h1 h2 h3 h4 l)⟩
theorem K4.set {w cl hd tr : Nat} {a : Store} (g : Nat) (o : O) (h : g = w ∨ g = cl ∨ g = hd ∨ g = tr) : K4 w cl hd tr a (a.set g o) := ⟨by simp, fun k h1 h2 h3 h4 _ => List.getElem?_set_ne (by rcases h with e | e | e | e <;> subst e <;> first | exact Ne.symm h1 | exact Ne.symm h2 | exact Ne.symm h3 | exact Ne.symm h4)⟩
section
variable {sz : List Nat} {L : List Int} {w cl hd tr : Nat} {co : D} {st : Store} {W : Wk}
theorem WAt.nwc (h : WAt sz L w cl hd tr co st W) : w ≠ cl := fun e => by have := h.o; rw [e, h.c] at this; cases this
theorem WAt.nwh (h : WAt sz L w cl hd tr co st W) : w ≠ hd := fun e => by have := h.o; rw [e, h.h] at this; cases this
theorem WAt.nwt (h : WAt sz L w cl hd tr co st W) : w ≠ tr := fun e => by have := h.o; rw [e, h.t] at this; cases this
theorem WAt.nch (h : WAt sz L w cl hd tr co st W) : cl ≠ hd := fun e => by have := h.c; rw [e, h.h] at this; cases this
theorem WAt.nht (h : WAt sz L w cl hd tr co st W) : hd ≠ tr := fun e => by have := h.h; rw [e, h.t] at this; cases this
theorem co_set {g : Nat} {o : O} (h : (∃ g, co = .ref g ∧ g ≠ cl ∧ g ≠ tr ∧ st[g]? = some (.lst (L.map D.int))) ∨ co = .tup (L.map D.int)) (q : g = cl ∨ g = tr ∨ ∀ k x, st[k]? = some (.lst x) → g ≠ k) : (∃ k, co = .ref k ∧ k ≠ cl ∧ k ≠ tr ∧ (st.set g o)[k]? = some (.lst (L.map D.int))) ∨ co = .tup (L.map D.int) := by
  rcases h with ⟨k, h1, h2, h3, h4⟩ | h
  · refine .inl ⟨k, h1, h2, h3, get_set h4 ?_⟩
    rcases q with e | e | e
    · rw [e]; exact Ne.symm h2
    · rw [e]; exact Ne.symm h3
    · exact e k _ h4
  · exact .inr h
theorem WAt.setC (h : WAt sz L w cl hd tr co st W) (cells : List Nat) : WAt sz L w cl hd tr co (st.set cl (.lst (cells.map natD))) { W with cells := cells } :=
  ⟨get_set h.o h.nwc.symm, set_get h.c, get_set h.h h.nch, get_set h.t h.ne, h.ne, co_set h.co (.inl rfl)⟩
theorem WAt.setT (h : WAt sz L w cl hd tr co st W) (t : List D) : WAt sz L w cl hd tr co (st.set tr (.lst t)) { W with trace := t } :=
  ⟨get_set h.o h.nwt.symm, get_set h.c h.ne.symm, get_set h.h h.nht.symm, set_get h.t, h.ne, co_set h.co (.inr (.inl rfl))⟩
theorem WAt.setH (h : WAt sz L w cl hd tr co st W) (r : Rg) : WAt sz L w cl hd tr co (st.set hd (.dic r.dc)) { W with r := r } :=
  ⟨get_set h.o h.nwh.symm, get_set h.c h.nch.symm, set_get h.h, get_set h.t h.nht, h.ne, co_set h.co (.inr (.inr fun k x e z => by rw [← z, h.h] at e; cases e))⟩
theorem WAt.setU (h : WAt sz L w cl hd tr co st W) (u : Nat) : WAt sz L w cl hd tr co (st.set w (wkO sz cl hd tr co u)) { W with used := u } :=
  ⟨set_get h.o, get_set h.c h.nwc, get_set h.h h.nwh, get_set h.t h.nwt, h.ne, co_set h.co (.inr (.inr fun k x e z => by rw [← z, h.o] at e; cases e))⟩
end
def ansD : Option Int → D
  | none => .non
  | some a => .int a
theorem getIx_map {α : Type} {f : α → D} {xs : List α} {i : Nat} {F : D → Prop} (h : i < xs.length) : getIx (xs.map f) (i : Int) F = F (f xs[i]) := by
  rw [getIx_n (by simpa using h), List.getElem_map]
theorem setIx_map {α : Type} {f : α → D} {xs : List α} {i : Nat} {v : α} {d : D} {F : List D → Prop} (h : i < xs.length) (e : d = f v) : setIx (xs.map f) (i : Int) d F = F ((xs.set i v).map f) := by
  subst e
  rw [setIx_of (j := i) (by rw [ix_pos (by omega) (by rw [List.length_map]; omega)]; rfl), List.map_set]
end Y.K_k12
set_option linter.all false
set_option maxHeartbeats 4000000
set_option maxRecDepth 100000
namespace Y.K_k12
open Y PySem
local macro_rules
  | `(tactic| simp! [$ls,*]) => `(tactic| simp (implicitDefEqProofs := false) (dsimp := false) (failIfUnchanged := false) only [lz1, z_ifT, z_ifF, k_c0, k_c1, k_c2, k_c3, k_c4, k_c5, k_c6, k_few0, k_fewS, k_lkm, k_pf0, k_pfh, k_pfm, k_cls, k_clsO, ks_nx, ks_rt, ks_bk, ks_ct, ks_xc, kl_nx, kl_rt, kl_bk, kl_ct, kl_xc, kc_nx, kc_rt, kc_xc, kt_nx, kt_rt, kt_bk, kt_ct, kt_xc, kh_nx, kh_rt, un_n, un_s, isNon_1, isNon_2, isNon_3, isNon_4, isNon_5, isNon_6, isNon_7, boolQ_1, intQ_1, optQ_1, lstQ_1, sqQ_1, sqQ_2, cntQ_1, cntQ_2, cntQ_3, dicQ_1, insQ_1, getIx_0, getIx_1, getIx_2, getIx_3, getIx_4, getIx_5, ixrQ_1, ixrQ_2, ixrQ_3, ixrQ_4, setIx_0, setIx_1, setIx_2, bindQ_nm, bindL_0, bindL_1, bindQ_tp, z_var, z_con, z_glo, z_bin, z_neg, z_cmp, z_chain, z_isN, z_notN, z_and, z_or, z_not, z_ife, z_call, z_make, methQ_1, z_meth, z_fld, z_pr, z_me, z_isi, z_idx, z_sli, z_abs0, z_tup, z_lst, z_dic, z_dcomp, z_fstr, z_efld, z_eisi, z_comp, z_Tcmp, z_Tchain, z_TisN, z_TnotN, z_Tand, z_Tor, z_Tnot, z_Ttv, z_nil, z_cons, z_Fnil, z_Fcons, z_Tsn, z_Ts1, z_rng1, int2Q_1, z_rng2, z_enm, z_zip, z_sq, z_Bnil, z_Bcons, z_asg, z_asgt, z_asg2, z_setf, z_seti, augQ_1, augQ_2, z_augn, z_augf, z_exp, z_ret, z_retN, z_if, z_for, z_whl, z_brk, z_cnt, z_pas, z_rais0, z_rais1, z_try, z_Hnil, z_Hcons, v_v0, v_vs, v_add, v_sub, v_mul, v_fdiv, v_mod, v_pow, v_sadd, v_tadd, v_ladd, v_lmul, v_int, v_intb, v_abs, v_max2, v_min2, v_stri, v_lens, v_lenm, v_len0, v_len1, v_len2, v_len3, v_len4, v_len5, v_len6, v_lenr, v_tupt, v_tupr, v_lstt, v_lstr, v_any, v_all, v_ixt, v_ixr, v_kon, v_seti, strQ_1, strQ_2, strQ_3, v_pts, v_ptn, v_sls, v_slt, v_slr, v_fld, v_setf, v_okl, v_oks, v_app, v_pop, v_lt, v_le, v_gt, v_ge, v_eq, v_ne, v_in, v_ni, v_eqii, v_eqss, v_eqbb, v_eqsi, v_eqis, v_eqni, v_eqin, v_eqns, v_eqsn, v_trn, v_trb, v_tri, v_trt, v_trr, v_trs, v_fms, v_fmi, v_inp, inrQ_1, inrQ_2, inrQ_3, v_inl, v_inK, v_ins, t_n, t_b, t_i, t_s, t_t, t_r, tyO_1, tyO_2, tyO_3, tyO_4, y_n, y_b, y_i, y_s, y_t, y_l, y_d, y_o, y_o1, y_o2, y_o3, y_o4, y_o5, y_o6, w_t, w_s, w_r, w_e, w_zs, w_zt, List.map_cons, List.map_nil, List.replicate_succ, List.replicate_zero, List.cons_append, List.nil_append, List.append_nil, List.set_cons_zero, List.set_cons_succ, List.any_cons, List.any_nil, List.lookup_cons_self, meT, reduceCtorEq, decide_true, decide_false, Bool.or_false, Bool.false_or, Bool.or_true, Bool.true_or, Bool.not_true, Bool.not_false, Bool.and_true, Bool.true_and, Bool.and_false, Bool.false_and, true_and, and_true, wipeE, Option.isSome_some, Option.isSome_none, List.getElem?_concat_length, Nat.reduceBEq, Int.reduceEq, Int.reduceLT, Int.reduceLE, Int.reduceNeg, glo_0, glo_1, glo_2, glo_3, glo_4, glo_5, glo_6, glo_7, glo_8, konn_0, konq_0_0, konq_0_1, konq_0_2, konq_0_3, konq_0_4, konq_0_5, konq_0_6, konq_0_7, alt_0, alt_1, alt_2, alt_3, alt_4, alt_5, alt_6, alt_7, alt_8, exf_0, exf_1, exf_2, exf_3, exf_4, exf_5, c_PastError, c_NoName, c_NoState, c_HasCoins, c_NoVault, c_NoRow, c_Body, c_Walk, c_Vault, d_size_row, d_choice_table, d_coined, d_used, d_trace, d_cells, d_result, d_begin, d_deed_row, d_coin_count, d_row_count, d_many_cells, d_body_table, d_coins, d_held, d_cell_row, d_part, d_index, $ls,*])
local macro_rules
  | `(tactic| simp!) => `(tactic| simp (implicitDefEqProofs := false) (dsimp := false) (failIfUnchanged := false) only [lz1, z_ifT, z_ifF, k_c0, k_c1, k_c2, k_c3, k_c4, k_c5, k_c6, k_few0, k_fewS, k_lkm, k_pf0, k_pfh, k_pfm, k_cls, k_clsO, ks_nx, ks_rt, ks_bk, ks_ct, ks_xc, kl_nx, kl_rt, kl_bk, kl_ct, kl_xc, kc_nx, kc_rt, kc_xc, kt_nx, kt_rt, kt_bk, kt_ct, kt_xc, kh_nx, kh_rt, un_n, un_s, isNon_1, isNon_2, isNon_3, isNon_4, isNon_5, isNon_6, isNon_7, boolQ_1, intQ_1, optQ_1, lstQ_1, sqQ_1, sqQ_2, cntQ_1, cntQ_2, cntQ_3, dicQ_1, insQ_1, getIx_0, getIx_1, getIx_2, getIx_3, getIx_4, getIx_5, ixrQ_1, ixrQ_2, ixrQ_3, ixrQ_4, setIx_0, setIx_1, setIx_2, bindQ_nm, bindL_0, bindL_1, bindQ_tp, z_var, z_con, z_glo, z_bin, z_neg, z_cmp, z_chain, z_isN, z_notN, z_and, z_or, z_not, z_ife, z_call, z_make, methQ_1, z_meth, z_fld, z_pr, z_me, z_isi, z_idx, z_sli, z_abs0, z_tup, z_lst, z_dic, z_dcomp, z_fstr, z_efld, z_eisi, z_comp, z_Tcmp, z_Tchain, z_TisN, z_TnotN, z_Tand, z_Tor, z_Tnot, z_Ttv, z_nil, z_cons, z_Fnil, z_Fcons, z_Tsn, z_Ts1, z_rng1, int2Q_1, z_rng2, z_enm, z_zip, z_sq, z_Bnil, z_Bcons, z_asg, z_asgt, z_asg2, z_setf, z_seti, augQ_1, augQ_2, z_augn, z_augf, z_exp, z_ret, z_retN, z_if, z_for, z_whl, z_brk, z_cnt, z_pas, z_rais0, z_rais1, z_try, z_Hnil, z_Hcons, v_v0, v_vs, v_add, v_sub, v_mul, v_fdiv, v_mod, v_pow, v_sadd, v_tadd, v_ladd, v_lmul, v_int, v_intb, v_abs, v_max2, v_min2, v_stri, v_lens, v_lenm, v_len0, v_len1, v_len2, v_len3, v_len4, v_len5, v_len6, v_lenr, v_tupt, v_tupr, v_lstt, v_lstr, v_any, v_all, v_ixt, v_ixr, v_kon, v_seti, strQ_1, strQ_2, strQ_3, v_pts, v_ptn, v_sls, v_slt, v_slr, v_fld, v_setf, v_okl, v_oks, v_app, v_pop, v_lt, v_le, v_gt, v_ge, v_eq, v_ne, v_in, v_ni, v_eqii, v_eqss, v_eqbb, v_eqsi, v_eqis, v_eqni, v_eqin, v_eqns, v_eqsn, v_trn, v_trb, v_tri, v_trt, v_trr, v_trs, v_fms, v_fmi, v_inp, inrQ_1, inrQ_2, inrQ_3, v_inl, v_inK, v_ins, t_n, t_b, t_i, t_s, t_t, t_r, tyO_1, tyO_2, tyO_3, tyO_4, y_n, y_b, y_i, y_s, y_t, y_l, y_d, y_o, y_o1, y_o2, y_o3, y_o4, y_o5, y_o6, w_t, w_s, w_r, w_e, w_zs, w_zt, List.map_cons, List.map_nil, List.replicate_succ, List.replicate_zero, List.cons_append, List.nil_append, List.append_nil, List.set_cons_zero, List.set_cons_succ, List.any_cons, List.any_nil, List.lookup_cons_self, meT, reduceCtorEq, decide_true, decide_false, Bool.or_false, Bool.false_or, Bool.or_true, Bool.true_or, Bool.not_true, Bool.not_false, Bool.and_true, Bool.true_and, Bool.and_false, Bool.false_and, true_and, and_true, wipeE, Option.isSome_some, Option.isSome_none, List.getElem?_concat_length, Nat.reduceBEq, Int.reduceEq, Int.reduceLT, Int.reduceLE, Int.reduceNeg, glo_0, glo_1, glo_2, glo_3, glo_4, glo_5, glo_6, glo_7, glo_8, konn_0, konq_0_0, konq_0_1, konq_0_2, konq_0_3, konq_0_4, konq_0_5, konq_0_6, konq_0_7, alt_0, alt_1, alt_2, alt_3, alt_4, alt_5, alt_6, alt_7, alt_8, exf_0, exf_1, exf_2, exf_3, exf_4, exf_5, c_PastError, c_NoName, c_NoState, c_HasCoins, c_NoVault, c_NoRow, c_Body, c_Walk, c_Vault, d_size_row, d_choice_table, d_coined, d_used, d_trace, d_cells, d_result, d_begin, d_deed_row, d_coin_count, d_row_count, d_many_cells, d_body_table, d_coins, d_held, d_cell_row, d_part, d_index])
theorem szAt_eq {sz : List Nat} {c : Nat} (h : c < sz.length) : szAt sz c = sz[c] := by unfold szAt; rw [List.getD_eq_getElem?_getD, List.getElem?_eq_getElem h]; rfl
theorem inCell_int {sz : List Nat} {L : List Int} (so : SzOk sz L) {c : Nat} (hc : c < sz.length) (v : Int) : D.int (v % (sz[c] : Int)) = natD (inCell sz c v) := by
  have s9 := so.sz _ (List.getElem_mem hc)
  have := Int.emod_nonneg v (show (sz[c] : Int) ≠ 0 by omega)
  unfold natD inCell
  rw [szAt_eq hc]
  congr 1
  omega
section
variable {sz : List Nat} {L : List Int} {w cl hd tr : Nat} {co : D}
def After (sz : List Nat) (L : List Int) (w cl hd tr : Nat) (co : D) (st : Store) (W : Wk) (Q : Store → Prop) : Prop := ∀ s, K4 w cl hd tr st s → WAt sz L w cl hd tr co s W → Q s
theorem dostep {k : Nat} {W : Wk} {st : Store} {Q : QE} {X : QX} (so : SzOk sz L) (A : WAt sz L w cl hd tr co st W) (ok : W.ok sz L) (r : Rw) {rec : List Rw → Wk → Res} {h depth loops : Nat} (hr : rowOk h sz.length depth loops r) (lt : W.trace.length < 1000000)
    (kind : (∃ c e, r = .set c e) ∨ (∃ g c, r = .read g c) ∨ ∃ g c e f, r = .swap g c e f) (hq : After sz L w cl hd tr co st (stepRw sz L rec r W).2 fun s => Q .non s) : Call T (k + 8) n_Walk_do_step [.ref w, r.d] st Q X := by
  refine call_z f_Walk_do_step.fn rfl rfl ?_
  show wpB T (Call T (k + 7)) none b_Walk_do_step [some (.ref w), some r.d, none, none, none, none] st _
  unfold b_Walk_do_step
  have ew := A.o
  unfold wkO at ew
  have tl : W.trace.length < line := lt_line (by omega)
  have lc := ok.len
  rcases kind with ⟨c, e, rfl⟩ | ⟨g, c, rfl⟩ | ⟨g, c, e, f, rfl⟩
  · obtain ⟨hc, he⟩ := hr
    have t1 : decide (wSet = ([115, 101, 116] : List Nat)) = true := by decide
    have s9 := so.sz _ (List.getElem_mem hc)
    simp! [Rw.d, t1, ew]
    refine value_ 6 e he k hd W.r st _ X A.h ok.r ?_
    simp! [ew]
    rw [getIx_map (f := natD) hc]
    simp! [natD]
    refine ⟨by omega, ?_⟩
    have A1 := A.setC (W.cells.set c (inCell sz c (e.val W.r)))
    have A2 := A1.setT (W.trace ++ [tell wSet c (inCell sz c (e.val W.r)) (W.cells.set c (inCell sz c (e.val W.r)))])
    have ew1 := A1.o
    unfold wkO at ew1
    have et1 := A1.t
    have ec1 := A1.c
    simp! [ew, A.c]
    rw [setIx_map (f := natD) (v := inCell sz c (e.val W.r)) (by omega) (inCell_int so hc _), lz1]
    simp! [ew1, et1, ec1]
    rw [inCell_int so hc]
    exact ⟨tl, hq _ ((K4.set cl _ (.inr (.inl rfl))).trans (K4.set tr _ (.inr (.inr (.inr rfl))))) A2⟩
  · obtain ⟨hg, hc⟩ := hr
    have t0 : decide (wRead = ([115, 101, 116] : List Nat)) = false := by decide
    have t1 : decide (wRead = ([114, 101, 97, 100] : List Nat)) = true := by decide
    have gd : W.cells.getD c 0 = W.cells[c]'(by omega) := by rw [List.getD_eq_getElem?_getD, List.getElem?_eq_getElem (by omega)]; rfl
    have A1 := A.setH (W.r.put g (W.cells.getD c 0))
    have A2 := A1.setT (W.trace ++ [tell wRead c (W.cells.getD c 0) W.cells])
    have ew1 := A1.o
    unfold wkO at ew1
    have et1 := A1.t
    have ec1 := A1.c
    simp! [Rw.d, t0, t1, ew, A.c]
    rw [getIx_map (f := natD) (show c < W.cells.length by omega), ← gd]
    simp! [ew, A.h, natD]
    refine ⟨lt_line (by simp [Rg.dc]), ?_⟩
    rw [Rg.putK (keepers_regs hg)]
    simp! [ew1, et1, ec1]
    exact ⟨tl, hq _ ((K4.set hd _ (.inr (.inr (.inl rfl)))).trans (K4.set tr _ (.inr (.inr (.inr rfl))))) A2⟩
  · obtain ⟨hg, hc, he, hf⟩ := hr
    have t0 : decide (wSwap = ([115, 101, 116] : List Nat)) = false := by decide
    have t1 : decide (wSwap = ([114, 101, 97, 100] : List Nat)) = false := by decide
    have s9 := so.sz _ (List.getElem_mem hc)
    have gd : W.cells.getD c 0 = W.cells[c]'(by omega) := by rw [List.getD_eq_getElem?_getD, List.getElem?_eq_getElem (by omega)]; rfl
    simp! [Rw.d, t0, t1, ew]
    refine value_ 6 e he k hd W.r st _ X A.h ok.r ?_
    simp! [ew]
    refine value_ 6 f hf k hd W.r st _ X A.h ok.r ?_
    simp! [ew, A.c]
    rw [getIx_map (f := natD) (show c < W.cells.length by omega), ← gd]
    simp! [natD]
    have hq' : After sz L w cl hd tr co st (if (W.cells.getD c 0 : Int) = e.val W.r then
      (none, { W with cells := W.cells.set c (inCell sz c (f.val W.r)), r := W.r.put g 1, trace := W.trace ++ [tell wSwap c 1 (W.cells.set c (inCell sz c (f.val W.r)))] })
      else (none, { W with r := W.r.put g 0, trace := W.trace ++ [tell wSwap c 0 W.cells] }) : Res).2 fun s => Q .non s := hq
    by_cases z : (W.cells.getD c 0 : Int) = e.val W.r
    · rw [if_pos z] at hq'
      have d1 : decide ((W.cells.getD c 0 : Int) = e.val W.r) = true := decide_eq_true z
      have i1 : (if true = true then (1 : Int) else 0) = 1 := rfl
      have A1 := A.setC (W.cells.set c (inCell sz c (f.val W.r)))
      have A2 := A1.setH (W.r.put g 1)
      have A3 := A2.setT (W.trace ++ [tell wSwap c 1 (W.cells.set c (inCell sz c (f.val W.r)))])
      have ew1 := A1.o
      have eh1 := A1.h
      have ew2 := A2.o
      have et2 := A2.t
      have ec2 := A2.c
      unfold wkO at ew1 ew2
      rw [d1, i1]
      simp! [ew]
      rw [getIx_map (f := natD) hc]
      simp! [natD]
      refine ⟨by omega, ?_⟩
      simp! [ew, A.c]
      rw [setIx_map (f := natD) (v := inCell sz c (f.val W.r)) (by omega) (inCell_int so hc _), lz1]
      simp! [ew1, eh1]
      refine ⟨lt_line (by simp [Rg.dc]), ?_⟩
      rw [Rg.putK (keepers_regs hg)]
      simp! [ew2, et2, ec2]
      exact ⟨tl, hq' _ (((K4.set cl _ (.inr (.inl rfl))).trans (K4.set hd _ (.inr (.inr (.inl rfl))))).trans (K4.set tr _ (.inr (.inr (.inr rfl))))) A3⟩
    · rw [if_neg z] at hq'
      have d1 : decide ((W.cells.getD c 0 : Int) = e.val W.r) = false := decide_eq_false z
      have i1 : (if false = true then (1 : Int) else 0) = 0 := rfl
      have A1 := A.setH (W.r.put g 0)
      have A2 := A1.setT (W.trace ++ [tell wSwap c 0 W.cells])
      have ew1 := A1.o
      unfold wkO at ew1
      have et1 := A1.t
      have ec1 := A1.c
      rw [d1, i1]
      simp! [ew, A.h]
      refine ⟨lt_line (by simp [Rg.dc]), ?_⟩
      rw [Rg.putK (keepers_regs hg)]
      simp! [ew1, et1, ec1]
      exact ⟨tl, hq' _ ((K4.set hd _ (.inr (.inr (.inl rfl)))).trans (K4.set tr _ (.inr (.inr (.inr rfl))))) A2⟩
theorem docoin {k : Nat} {W : Wk} {st : Store} {Q : QE} {X : QX} (so : SzOk sz L) (A : WAt sz L w cl hd tr co st W) (ok : W.ok sz L) {g : Nat} (hg : g ∈ keepers) {rec : List Rw → Wk → Res} (hq : After sz L w cl hd tr co st (stepRw sz L rec (.coin g) W).2 fun s => Q (ansD (stepRw sz L rec (.coin g) W).1) s) : Call T (k + 1) n_Walk_do_coin [.ref w, .str [g]] st Q X := by
  refine call_z f_Walk_do_coin.fn rfl rfl ?_
  show wpB T (Call T k) none b_Walk_do_coin [some (.ref w), some (.str [g])] st _
  unfold b_Walk_do_coin
  have ew := A.o
  unfold wkO natD at ew
  have us := ok.used
  have hq' : After sz L w cl hd tr co st (if W.used = L.length then (some (-1), W) else (none, { W with r := W.r.put g (L.getD W.used 0), used := W.used + 1 }) : Res).2 fun s => Q (ansD (if W.used = L.length then (some (-1), W) else (none, { W with r := W.r.put g (L.getD W.used 0), used := W.used + 1 }) : Res).1) s := hq
  have len : ∀ {F : D → Store → Prop}, prQ .len [co] st F = F (.int L.length) st := fun {F} => by
    rcases A.co with ⟨x, rfl, _, _, e⟩ | rfl
    · rw [v_lenr, e, cntQ_1, lz1, List.length_map]
    · rw [v_lenm, List.length_map]
  simp! [ew, len]
  by_cases z : W.used = L.length
  · rw [if_pos z] at hq'
    have d1 : decide ((W.used : Int) = (L.length : Int)) = true := decide_eq_true (by omega)
    simp! [d1]
    exact hq' st (.refl _ _ _ _ _) A
  · rw [if_neg z] at hq'
    have lt : W.used < L.length := by omega
    have d1 : decide ((W.used : Int) = (L.length : Int)) = false := decide_eq_false (by omega)
    have gd : L.getD W.used 0 = L[W.used] := by rw [List.getD_eq_getElem?_getD, List.getElem?_eq_getElem lt]; rfl
    have A1 := A.setH (W.r.put g (L.getD W.used 0))
    have A2 := A1.setU (W.used + 1)
    have ew1 := A1.o
    unfold wkO natD at ew1
    have ix : ∀ {F : D → Store → Prop}, idxQ T st co (.int (W.used : Int)) F = F (.int (L.getD W.used 0)) st := fun {F} => by
      rcases A.co with ⟨x, rfl, _, _, e⟩ | rfl
      · rw [v_ixr, e, ixrQ_1, getIx_map lt, lz1, gd]
      · rw [v_ixt, getIx_map lt, lz1, gd]
    simp! [d1, ew, ix, A.h]
    refine ⟨lt_line (by simp [Rg.dc]), ?_⟩
    rw [Rg.putK (keepers_regs hg)]
    simp! [ew1]
    exact hq' _ ((K4.set hd _ (.inr (.inr (.inl rfl)))).trans (K4.set w _ (.inl rfl))) A2
end
end Y.K_k12
set_option linter.all false
set_option maxHeartbeats 4000000
set_option maxRecDepth 100000
namespace Y.K_k12
open Y PySem
local macro_rules
  | `(tactic| simp! [$ls,*]) => `(tactic| simp (implicitDefEqProofs := false) (dsimp := false) (failIfUnchanged := false) only [lz1, z_ifT, z_ifF, k_c0, k_c1, k_c2, k_c3, k_c4, k_c5, k_c6, k_few0, k_fewS, k_lkm, k_pf0, k_pfh, k_pfm, k_cls, k_clsO, ks_nx, ks_rt, ks_bk, ks_ct, ks_xc, kl_nx, kl_rt, kl_bk, kl_ct, kl_xc, kc_nx, kc_rt, kc_xc, kt_nx, kt_rt, kt_bk, kt_ct, kt_xc, kh_nx, kh_rt, un_n, un_s, isNon_1, isNon_2, isNon_3, isNon_4, isNon_5, isNon_6, isNon_7, boolQ_1, intQ_1, optQ_1, lstQ_1, sqQ_1, sqQ_2, cntQ_1, cntQ_2, cntQ_3, dicQ_1, insQ_1, getIx_0, getIx_1, getIx_2, getIx_3, getIx_4, getIx_5, ixrQ_1, ixrQ_2, ixrQ_3, ixrQ_4, setIx_0, setIx_1, setIx_2, bindQ_nm, bindL_0, bindL_1, bindQ_tp, z_var, z_con, z_glo, z_bin, z_neg, z_cmp, z_chain, z_isN, z_notN, z_and, z_or, z_not, z_ife, z_call, z_make, methQ_1, z_meth, z_fld, z_pr, z_me, z_isi, z_idx, z_sli, z_abs0, z_tup, z_lst, z_dic, z_dcomp, z_fstr, z_efld, z_eisi, z_comp, z_Tcmp, z_Tchain, z_TisN, z_TnotN, z_Tand, z_Tor, z_Tnot, z_Ttv, z_nil, z_cons, z_Fnil, z_Fcons, z_Tsn, z_Ts1, z_rng1, int2Q_1, z_rng2, z_enm, z_zip, z_sq, z_Bnil, z_Bcons, z_asg, z_asgt, z_asg2, z_setf, z_seti, augQ_1, augQ_2, z_augn, z_augf, z_exp, z_ret, z_retN, z_if, z_for, z_whl, z_brk, z_cnt, z_pas, z_rais0, z_rais1, z_try, z_Hnil, z_Hcons, v_v0, v_vs, v_add, v_sub, v_mul, v_fdiv, v_mod, v_pow, v_sadd, v_tadd, v_ladd, v_lmul, v_int, v_intb, v_abs, v_max2, v_min2, v_stri, v_lens, v_lenm, v_len0, v_len1, v_len2, v_len3, v_len4, v_len5, v_len6, v_lenr, v_tupt, v_tupr, v_lstt, v_lstr, v_any, v_all, v_ixt, v_ixr, v_kon, v_seti, strQ_1, strQ_2, strQ_3, v_pts, v_ptn, v_sls, v_slt, v_slr, v_fld, v_setf, v_okl, v_oks, v_app, v_pop, v_lt, v_le, v_gt, v_ge, v_eq, v_ne, v_in, v_ni, v_eqii, v_eqss, v_eqbb, v_eqsi, v_eqis, v_eqni, v_eqin, v_eqns, v_eqsn, v_trn, v_trb, v_tri, v_trt, v_trr, v_trs, v_fms, v_fmi, v_inp, inrQ_1, inrQ_2, inrQ_3, v_inl, v_inK, v_ins, t_n, t_b, t_i, t_s, t_t, t_r, tyO_1, tyO_2, tyO_3, tyO_4, y_n, y_b, y_i, y_s, y_t, y_l, y_d, y_o, y_o1, y_o2, y_o3, y_o4, y_o5, y_o6, w_t, w_s, w_r, w_e, w_zs, w_zt, List.map_cons, List.map_nil, List.replicate_succ, List.replicate_zero, List.cons_append, List.nil_append, List.append_nil, List.set_cons_zero, List.set_cons_succ, List.any_cons, List.any_nil, List.lookup_cons_self, meT, reduceCtorEq, decide_true, decide_false, Bool.or_false, Bool.false_or, Bool.or_true, Bool.true_or, Bool.not_true, Bool.not_false, Bool.and_true, Bool.true_and, Bool.and_false, Bool.false_and, true_and, and_true, wipeE, Option.isSome_some, Option.isSome_none, List.getElem?_concat_length, Nat.reduceBEq, Int.reduceEq, Int.reduceLT, Int.reduceLE, Int.reduceNeg, glo_0, glo_1, glo_2, glo_3, glo_4, glo_5, glo_6, glo_7, glo_8, konn_0, konq_0_0, konq_0_1, konq_0_2, konq_0_3, konq_0_4, konq_0_5, konq_0_6, konq_0_7, alt_0, alt_1, alt_2, alt_3, alt_4, alt_5, alt_6, alt_7, alt_8, exf_0, exf_1, exf_2, exf_3, exf_4, exf_5, c_PastError, c_NoName, c_NoState, c_HasCoins, c_NoVault, c_NoRow, c_Body, c_Walk, c_Vault, d_size_row, d_choice_table, d_coined, d_used, d_trace, d_cells, d_result, d_begin, d_deed_row, d_coin_count, d_row_count, d_many_cells, d_body_table, d_coins, d_held, d_cell_row, d_part, d_index, $ls,*])
local macro_rules
  | `(tactic| simp!) => `(tactic| simp (implicitDefEqProofs := false) (dsimp := false) (failIfUnchanged := false) only [lz1, z_ifT, z_ifF, k_c0, k_c1, k_c2, k_c3, k_c4, k_c5, k_c6, k_few0, k_fewS, k_lkm, k_pf0, k_pfh, k_pfm, k_cls, k_clsO, ks_nx, ks_rt, ks_bk, ks_ct, ks_xc, kl_nx, kl_rt, kl_bk, kl_ct, kl_xc, kc_nx, kc_rt, kc_xc, kt_nx, kt_rt, kt_bk, kt_ct, kt_xc, kh_nx, kh_rt, un_n, un_s, isNon_1, isNon_2, isNon_3, isNon_4, isNon_5, isNon_6, isNon_7, boolQ_1, intQ_1, optQ_1, lstQ_1, sqQ_1, sqQ_2, cntQ_1, cntQ_2, cntQ_3, dicQ_1, insQ_1, getIx_0, getIx_1, getIx_2, getIx_3, getIx_4, getIx_5, ixrQ_1, ixrQ_2, ixrQ_3, ixrQ_4, setIx_0, setIx_1, setIx_2, bindQ_nm, bindL_0, bindL_1, bindQ_tp, z_var, z_con, z_glo, z_bin, z_neg, z_cmp, z_chain, z_isN, z_notN, z_and, z_or, z_not, z_ife, z_call, z_make, methQ_1, z_meth, z_fld, z_pr, z_me, z_isi, z_idx, z_sli, z_abs0, z_tup, z_lst, z_dic, z_dcomp, z_fstr, z_efld, z_eisi, z_comp, z_Tcmp, z_Tchain, z_TisN, z_TnotN, z_Tand, z_Tor, z_Tnot, z_Ttv, z_nil, z_cons, z_Fnil, z_Fcons, z_Tsn, z_Ts1, z_rng1, int2Q_1, z_rng2, z_enm, z_zip, z_sq, z_Bnil, z_Bcons, z_asg, z_asgt, z_asg2, z_setf, z_seti, augQ_1, augQ_2, z_augn, z_augf, z_exp, z_ret, z_retN, z_if, z_for, z_whl, z_brk, z_cnt, z_pas, z_rais0, z_rais1, z_try, z_Hnil, z_Hcons, v_v0, v_vs, v_add, v_sub, v_mul, v_fdiv, v_mod, v_pow, v_sadd, v_tadd, v_ladd, v_lmul, v_int, v_intb, v_abs, v_max2, v_min2, v_stri, v_lens, v_lenm, v_len0, v_len1, v_len2, v_len3, v_len4, v_len5, v_len6, v_lenr, v_tupt, v_tupr, v_lstt, v_lstr, v_any, v_all, v_ixt, v_ixr, v_kon, v_seti, strQ_1, strQ_2, strQ_3, v_pts, v_ptn, v_sls, v_slt, v_slr, v_fld, v_setf, v_okl, v_oks, v_app, v_pop, v_lt, v_le, v_gt, v_ge, v_eq, v_ne, v_in, v_ni, v_eqii, v_eqss, v_eqbb, v_eqsi, v_eqis, v_eqni, v_eqin, v_eqns, v_eqsn, v_trn, v_trb, v_tri, v_trt, v_trr, v_trs, v_fms, v_fmi, v_inp, inrQ_1, inrQ_2, inrQ_3, v_inl, v_inK, v_ins, t_n, t_b, t_i, t_s, t_t, t_r, tyO_1, tyO_2, tyO_3, tyO_4, y_n, y_b, y_i, y_s, y_t, y_l, y_d, y_o, y_o1, y_o2, y_o3, y_o4, y_o5, y_o6, w_t, w_s, w_r, w_e, w_zs, w_zt, List.map_cons, List.map_nil, List.replicate_succ, List.replicate_zero, List.cons_append, List.nil_append, List.append_nil, List.set_cons_zero, List.set_cons_succ, List.any_cons, List.any_nil, List.lookup_cons_self, meT, reduceCtorEq, decide_true, decide_false, Bool.or_false, Bool.false_or, Bool.or_true, Bool.true_or, Bool.not_true, Bool.not_false, Bool.and_true, Bool.true_and, Bool.and_false, Bool.false_and, true_and, and_true, wipeE, Option.isSome_some, Option.isSome_none, List.getElem?_concat_length, Nat.reduceBEq, Int.reduceEq, Int.reduceLT, Int.reduceLE, Int.reduceNeg, glo_0, glo_1, glo_2, glo_3, glo_4, glo_5, glo_6, glo_7, glo_8, konn_0, konq_0_0, konq_0_1, konq_0_2, konq_0_3, konq_0_4, konq_0_5, konq_0_6, konq_0_7, alt_0, alt_1, alt_2, alt_3, alt_4, alt_5, alt_6, alt_7, alt_8, exf_0, exf_1, exf_2, exf_3, exf_4, exf_5, c_PastError, c_NoName, c_NoState, c_HasCoins, c_NoVault, c_NoRow, c_Body, c_Walk, c_Vault, d_size_row, d_choice_table, d_coined, d_used, d_trace, d_cells, d_result, d_begin, d_deed_row, d_coin_count, d_row_count, d_many_cells, d_body_table, d_coins, d_held, d_cell_row, d_part, d_index])
mutual
def Rw.mst : Rw → Nat
  | .ife _ a b => Rw.msts a + Rw.msts b
  | .times _ a => 9 * Rw.msts a
  | _ => 1
def Rw.msts : List Rw → Nat
  | [] => 0
  | r :: rs => r.mst + Rw.msts rs
end
theorem mst_le : ∀ (h : Nat) {many depth loops : Nat} {rows : List Rw}, rowsOk h many depth loops rows → loops ≤ 2 → Rw.msts rows ≤ 9 ^ (2 - loops) * Rw.sizes rows := by
  intro h
  induction h with
  | zero =>
    intro many depth loops rows ok _
    rw [show rows = [] from ok]
    exact Nat.zero_le _
  | succ h ih =>
    intro many depth loops rows ok l2
    have ok' : ∀ r ∈ rows, rowOk h many depth loops r := fun r m => rowsOk_row ok m
    clear ok
    have p1 : 1 ≤ 9 ^ (2 - loops) := Nat.one_le_pow _ _ (by decide)
    induction rows with
    | nil => exact Nat.zero_le _
    | cons r rs ihr =>
      have q := ihr fun x m => ok' x (List.mem_cons_of_mem _ m)
      have xo := ok' r List.mem_cons_self
      have one : r.mst ≤ 9 ^ (2 - loops) * r.size := by
        cases r with
        | ife e a b =>
          have h1 := ih xo.2.1 l2
          have h2 := ih xo.2.2 l2
          show Rw.msts a + Rw.msts b ≤ 9 ^ (2 - loops) * (1 + Rw.sizes a + Rw.sizes b)
          rw [Nat.mul_add, Nat.mul_add]
          omega
        | times e a =>
          have h1 := ih xo.2.2 (by have := xo.1; omega)
          show 9 * Rw.msts a ≤ 9 ^ (2 - loops) * (1 + Rw.sizes a)
          have e9 : 9 ^ (2 - loops) = 9 * 9 ^ (2 - (loops + 1)) := by
            have : 2 - loops = (2 - (loops + 1)) + 1 := by have := xo.1; omega
            rw [this, Nat.pow_succ, Nat.mul_comm]
          rw [e9, Nat.mul_assoc]
          exact Nat.mul_le_mul_left 9 (Nat.le_trans h1 (Nat.mul_le_mul_left _ (Nat.le_add_left _ _)))
        | _ => simp only [Rw.mst, Rw.size, Nat.mul_one]; exact p1
      show r.mst + Rw.msts rs ≤ _ * (r.size + Rw.sizes rs)
      rw [Nat.mul_add]
      omega
theorem timesOf_s {f : Wk → Res} {n : Nat} {W : Wk} : timesOf f (n + 1) W = (match f W with
    | (some a, W') => (some a, W')
    | (none, W') => timesOf f n W') := rfl
theorem rowsOf_c {f : Rw → Wk → Res} {r : Rw} {rs : List Rw} {W : Wk} : rowsOf f (r :: rs) W = (match f r W with
    | (some a, W') => (some a, W')
    | (none, W') => rowsOf f rs W') := rfl
theorem step_tr {sz : List Nat} {L : List Int} {h : Nat} {many : Nat} {rec : List Rw → Wk → Res} (so : SzOk sz L) (ih : ∀ rows depth loops W, rowsOk h many depth loops rows → W.ok sz L → (rec rows W).2.trace.length ≤ W.trace.length + Rw.msts rows ∧ (rec rows W).2.ok sz L) {r : Rw} {depth loops : Nat} (hr : rowOk h many depth loops r) {W : Wk} (ok : W.ok sz L) : (stepRw sz L rec r W).2.trace.length ≤ W.trace.length + r.mst := by
  cases r with
  | ans e => show W.trace.length ≤ W.trace.length + 1; omega
  | ife e a b =>
    show (if e.val W.r ≠ 0 then rec a W else rec b W).2.trace.length ≤ W.trace.length + (Rw.msts a + Rw.msts b)
    have h1 := (ih _ _ _ _ hr.2.1 ok).1
    have h2 := (ih _ _ _ _ hr.2.2 ok).1
    split <;> omega
  | times e a =>
    have v9 := Ex.val_ok ok.r hr.2.1
    show (timesOf (rec a) (e.val W.r).toNat W).2.trace.length ≤ W.trace.length + 9 * Rw.msts a
    have : ∀ (n : Nat) (W : Wk), W.ok sz L → (timesOf (rec a) n W).2.trace.length ≤ W.trace.length + n * Rw.msts a := fun n => by
      induction n with
      | zero => intro W _; show W.trace.length ≤ _; omega
      | succ n ihn =>
        intro W ok
        have q := ih _ _ _ _ hr.2.2 ok
        unfold timesOf
        rw [Nat.succ_mul]
        split
        · rename_i e; rw [e] at q; dsimp only at q ⊢; omega
        · rename_i e; rw [e] at q; have := ihn _ q.2; dsimp only at q this; omega
    have q := this (e.val W.r).toNat W ok
    have : (e.val W.r).toNat * Rw.msts a ≤ 9 * Rw.msts a := Nat.mul_le_mul_right _ (by omega)
    omega
  | coin r =>
    show (if W.used = L.length then (some (-1), W) else (none, { W with r := W.r.put r (L.getD W.used 0), used := W.used + 1 }) : Res).2.trace.length ≤ W.trace.length + 1
    split
    · show W.trace.length ≤ _; omega
    · show W.trace.length ≤ _; omega
  | keep r e => show W.trace.length ≤ W.trace.length + 1; omega
  | set c e => show (W.trace ++ [_]).length ≤ W.trace.length + 1; simp
  | read r c => show (W.trace ++ [_]).length ≤ W.trace.length + 1; simp
  | swap r c e f =>
    show (if (W.cells.getD c 0 : Int) = e.val W.r then _ else _ : Res).2.trace.length ≤ W.trace.length + 1
    split
    · show (W.trace ++ [_]).length ≤ W.trace.length + 1; simp
    · show (W.trace ++ [_]).length ≤ W.trace.length + 1; simp
theorem rows_tr {sz : List Nat} {L : List Int} (so : SzOk sz L) : ∀ (h : Nat) (rows : List Rw) (depth loops : Nat) (W : Wk), rowsOk h sz.length depth loops rows → W.ok sz L → (doRows sz L h rows W).2.trace.length ≤ W.trace.length + Rw.msts rows ∧ (doRows sz L h rows W).2.ok sz L := by
  intro h
  induction h with
  | zero => intro rows depth loops W _ ok; exact ⟨by show W.trace.length ≤ _; omega, ok⟩
  | succ h ih =>
    intro rows depth loops W hr ok
    refine ⟨?_, rows_ok so (h + 1) rows depth loops W hr ok⟩
    have hr' : ∀ r ∈ rows, rowOk h sz.length depth loops r := fun r m => rowsOk_row hr m
    clear hr
    show (rowsOf _ rows W).2.trace.length ≤ _
    induction rows generalizing W with
    | nil => show W.trace.length ≤ _; omega
    | cons r rs ihr =>
      have q := step_tr so (rec := doRows sz L h) (fun rows depth loops W => ih rows depth loops W) (hr' r List.mem_cons_self) ok
      have o := step_ok so (rec := doRows sz L h) (fun rows depth loops W h1 h2 => (ih rows depth loops W h1 h2).2) (hr' r List.mem_cons_self) ok
      show (rowsOf _ (r :: rs) W).2.trace.length ≤ W.trace.length + (r.mst + Rw.msts rs)
      unfold rowsOf
      split
      · rename_i e; rw [e] at q; dsimp only at q ⊢; omega
      · rename_i e
        rw [e] at q o
        have := ihr _ o fun r m => hr' r (List.mem_cons_of_mem _ m)
        dsimp only at q this
        omega
section
variable {sz : List Nat} {L : List Int} {w cl hd tr : Nat} {co : D}
theorem After.of {st s : Store} {W : Wk} {P : Store → Prop} (h : After sz L w cl hd tr co st W P) (k : K4 w cl hd tr st s) : After sz L w cl hd tr co s W P := fun s' k' a => h s' (k.trans k') a
def RowsDo (sz : List Nat) (L : List Int) (w cl hd tr : Nat) (co : D) (lv : Nat) (rec : List Rw → Wk → Res) (h : Nat) : Prop := ∀ (rows : List Rw) (depth loops : Nat) (W : Wk) (st : Store) (Q : QE) (X : QX), WAt sz L w cl hd tr co st W → W.ok sz L → rowsOk h sz.length depth loops rows → W.trace.length + Rw.msts rows < 1000000 →
  After sz L w cl hd tr co st (rec rows W).2 (fun s => Q (ansD (rec rows W).1) s) → Call T lv n_Walk_do_rows [.ref w, .tup (Rw.ds rows)] st Q X
theorem dotimes {k h : Nat} {rec : List Rw → Wk → Res} {rows : List Rw} {depth loops n : Nat} {W : Wk} {st : Store} {Q : QE} {X : QX} (D0 : RowsDo sz L w cl hd tr co k rec h) (hok : ∀ W, W.ok sz L → (rec rows W).2.trace.length ≤ W.trace.length + Rw.msts rows ∧ (rec rows W).2.ok sz L) (A : WAt sz L w cl hd tr co st W) (ok : W.ok sz L) (hr : rowsOk h sz.length depth loops rows) (hn : n ≤ 9) (lt : W.trace.length + 9 * Rw.msts rows < 1000000)
    (hq : After sz L w cl hd tr co st (timesOf (rec rows) n W).2 fun s => Q (ansD (timesOf (rec rows) n W).1) s) : Call T (k + 1) n_Walk_do_times [.ref w, .int n, .tup (Rw.ds rows)] st Q X := by
  refine call_z f_Walk_do_times.fn rfl rfl ?_
  show wpB T (Call T k) none b_Walk_do_times [some (.ref w), some (.int n), some (.tup (Rw.ds rows)), none, none] st _
  unfold b_Walk_do_times
  simp!
  refine ⟨by omega, by omega, ?_⟩
  rw [Int.toNat_natCast, rngD_rg]
  refine for_s (fun r env s => ∃ (i m : Nat) (W1 : Wk) (o1 o2 : Option D), r = rg i m ∧ timesOf (rec rows) m W1 = timesOf (rec rows) n W ∧ K4 w cl hd tr st s ∧ WAt sz L w cl hd tr co s W1 ∧ W1.ok sz L ∧ W1.trace.length + m * Rw.msts rows < 1000000 ∧ env = [some (.ref w), some (.int n), some (.tup (Rw.ds rows)), o1, o2]) ⟨0, n, W, none, none, rfl, rfl, .refl _ _ _ _ _, A, ok, by have := Nat.mul_le_mul_right (Rw.msts rows) hn; omega, rfl⟩ (fun d r env s N ⟨i, m, W1, o1, o2, e1, e2, e3, e4, e5, e6, e7⟩ hN => ?_) (fun env s ⟨i, m, W1, o1, o2, e1, e2, e3, e4, e5, e6, e7⟩ => ?_)
  · subst e7
    cases m with
    | zero => cases e1
    | succ m =>
      rw [rg_succ] at e1
      cases e1
      have ew := e4.o
      unfold wkO at ew
      rw [Nat.succ_mul] at e6
      obtain ⟨q1, q2⟩ := hok W1 e5
      rw [timesOf_s] at e2
      simp! [ew]
      refine D0 rows depth loops W1 s _ X e4 e5 hr (by omega) fun s2 k2 a2 => ?_
      cases ea : rec rows W1 with
      | mk a W2 =>
        rw [ea] at e2 q1 q2 a2
        cases a with
        | some a =>
          rw [← e2] at hq
          simp! [ansD]
          exact hq s2 (e3.trans k2) a2
        | none =>
          simp! [ansD]
          exact hN _ _ ⟨i + 1, m, W2, _, _, rfl, e2, e3.trans k2, a2, q2, by dsimp only at q1; omega, rfl⟩
  · subst e7
    cases m with
    | succ m => rw [rg_succ] at e1; cases e1
    | zero =>
      rw [← e2] at hq
      simp!
      exact hq s e3 e4
theorem dorow {k h : Nat} {rec : List Rw → Wk → Res} {depth loops : Nat} {r : Rw} {W : Wk} {st : Store} {Q : QE} {X : QX} (so : SzOk sz L) (D0 : RowsDo sz L w cl hd tr co (k + 8) rec h) (hok : ∀ rows depth loops W, rowsOk h sz.length depth loops rows → W.ok sz L → (rec rows W).2.trace.length ≤ W.trace.length + Rw.msts rows ∧ (rec rows W).2.ok sz L) (A : WAt sz L w cl hd tr co st W) (ok : W.ok sz L) (hr : rowOk h sz.length depth loops r) (lt : W.trace.length + r.mst < 1000000)
    (D1 : RowsDo sz L w cl hd tr co (k + 9) rec h) (hq : After sz L w cl hd tr co st (stepRw sz L rec r W).2 fun s => Q (ansD (stepRw sz L rec r W).1) s) : Call T (k + 10) n_Walk_do_row [.ref w, r.d] st Q X := by
  refine call_z f_Walk_do_row.fn rfl rfl ?_
  show wpB T (Call T (k + 9)) none b_Walk_do_row [some (.ref w), some r.d, none] st _
  unfold b_Walk_do_row
  have ew := A.o
  unfold wkO at ew
  cases r with
  | ans e =>
    have t1 : decide (wAns = ([97, 110, 115, 119, 101, 114] : List Nat)) = true := by decide
    simp! [Rw.d, t1, ew]
    refine value_ 6 e hr (k + 2) hd W.r st _ X A.h ok.r ?_
    simp!
    exact hq st (.refl _ _ _ _ _) A
  | ife e a b =>
    have t1 : decide (wIf = ([97, 110, 115, 119, 101, 114] : List Nat)) = false := by decide
    have t2 : decide (wIf = ([105, 102] : List Nat)) = true := by decide
    have hq' : After sz L w cl hd tr co st (if e.val W.r ≠ 0 then rec a W else rec b W).2 fun s => Q (ansD (if e.val W.r ≠ 0 then rec a W else rec b W).1) s := hq
    have lt' : W.trace.length + (Rw.msts a + Rw.msts b) < 1000000 := lt
    simp! [Rw.d, t1, t2, ew]
    refine value_ 6 e hr.1 (k + 2) hd W.r st _ X A.h ok.r ?_
    simp!
    by_cases z : e.val W.r = 0
    · rw [if_neg (fun x => x z)] at hq'
      have d1 : decide (e.val W.r = 0) = true := decide_eq_true z
      simp! [d1, ew]
      refine D1 b (depth + 1) loops W st _ X A ok hr.2.2 (by omega) fun s ks as => ?_
      simp!
      exact hq' s ks as
    · rw [if_pos z] at hq'
      have d1 : decide (e.val W.r = 0) = false := decide_eq_false z
      simp! [d1, ew]
      refine D1 a (depth + 1) loops W st _ X A ok hr.2.1 (by omega) fun s ks as => ?_
      simp!
      exact hq' s ks as
  | times e a =>
    have t1 : decide (wTimes = ([97, 110, 115, 119, 101, 114] : List Nat)) = false := by decide
    have t2 : decide (wTimes = ([105, 102] : List Nat)) = false := by decide
    have t3 : decide (wTimes = ([116, 105, 109, 101, 115] : List Nat)) = true := by decide
    have v9 := Ex.val_ok ok.r hr.2.1
    have lt' : W.trace.length + 9 * Rw.msts a < 1000000 := lt
    simp! [Rw.d, t1, t2, t3, ew]
    refine value_ 6 e hr.2.1 (k + 2) hd W.r st _ X A.h ok.r ?_
    simp!
    rw [show D.int (e.val W.r) = .int ((e.val W.r).toNat : Int) by congr 1; omega]
    refine dotimes (k := k + 8) (h := h) (depth := depth + 1) (loops := loops + 1) D0 (fun W o => hok a _ _ W hr.2.2 o) A ok hr.2.2 (by omega) lt' fun s ks as => ?_
    simp!
    exact hq s ks as
  | coin g =>
    have t1 : decide (wCoin = ([97, 110, 115, 119, 101, 114] : List Nat)) = false := by decide
    have t2 : decide (wCoin = ([105, 102] : List Nat)) = false := by decide
    have t3 : decide (wCoin = ([116, 105, 109, 101, 115] : List Nat)) = false := by decide
    have t4 : decide (wCoin = ([99, 111, 105, 110] : List Nat)) = true := by decide
    simp! [Rw.d, t1, t2, t3, t4, ew]
    refine docoin (rec := rec) so A ok hr.1 fun s ks as => ?_
    simp!
    exact hq s ks as
  | keep g e =>
    have t1 : decide (wKeep = ([97, 110, 115, 119, 101, 114] : List Nat)) = false := by decide
    have t2 : decide (wKeep = ([105, 102] : List Nat)) = false := by decide
    have t3 : decide (wKeep = ([116, 105, 109, 101, 115] : List Nat)) = false := by decide
    have t4 : decide (wKeep = ([99, 111, 105, 110] : List Nat)) = false := by decide
    have t5 : decide (wKeep = ([107, 101, 101, 112] : List Nat)) = true := by decide
    simp! [Rw.d, t1, t2, t3, t4, t5, ew]
    refine value_ 6 e hr.2 (k + 2) hd W.r st _ X A.h ok.r ?_
    simp! [ew, A.h]
    refine ⟨lt_line (by simp [Rg.dc]), ?_⟩
    rw [Rg.putK (keepers_regs hr.1)]
    simp!
    exact hq _ (K4.set hd _ (.inr (.inr (.inl rfl)))) (A.setH _)
  | set c e =>
    have t1 : decide (wSet = ([97, 110, 115, 119, 101, 114] : List Nat)) = false := by decide
    have t2 : decide (wSet = ([105, 102] : List Nat)) = false := by decide
    have t3 : decide (wSet = ([116, 105, 109, 101, 115] : List Nat)) = false := by decide
    have t4 : decide (wSet = ([99, 111, 105, 110] : List Nat)) = false := by decide
    have t5 : decide (wSet = ([107, 101, 101, 112] : List Nat)) = false := by decide
    simp! [Rw.d, t1, t2, t3, t4, t5, ew]
    refine dostep (k := k + 1) so A ok (.set c e) (rec := rec) (h := h) (depth := depth) (loops := loops) hr (by have : (Rw.set c e).mst = 1 := rfl; omega) (.inl ⟨c, e, rfl⟩) fun s ks as => ?_
    simp!
    exact hq s ks as
  | read g c =>
    have t1 : decide (wRead = ([97, 110, 115, 119, 101, 114] : List Nat)) = false := by decide
    have t2 : decide (wRead = ([105, 102] : List Nat)) = false := by decide
    have t3 : decide (wRead = ([116, 105, 109, 101, 115] : List Nat)) = false := by decide
    have t4 : decide (wRead = ([99, 111, 105, 110] : List Nat)) = false := by decide
    have t5 : decide (wRead = ([107, 101, 101, 112] : List Nat)) = false := by decide
    simp! [Rw.d, t1, t2, t3, t4, t5, ew]
    refine dostep (k := k + 1) so A ok (.read g c) (rec := rec) (h := h) (depth := depth) (loops := loops) hr (by have : (Rw.read g c).mst = 1 := rfl; omega) (.inr (.inl ⟨g, c, rfl⟩)) fun s ks as => ?_
    simp!
    exact hq s ks as
  | swap g c e f =>
    have t1 : decide (wSwap = ([97, 110, 115, 119, 101, 114] : List Nat)) = false := by decide
    have t2 : decide (wSwap = ([105, 102] : List Nat)) = false := by decide
    have t3 : decide (wSwap = ([116, 105, 109, 101, 115] : List Nat)) = false := by decide
    have t4 : decide (wSwap = ([99, 111, 105, 110] : List Nat)) = false := by decide
    have t5 : decide (wSwap = ([107, 101, 101, 112] : List Nat)) = false := by decide
    simp! [Rw.d, t1, t2, t3, t4, t5, ew]
    refine dostep (k := k + 1) so A ok (.swap g c e f) (rec := rec) (h := h) (depth := depth) (loops := loops) hr (by have : (Rw.swap g c e f).mst = 1 := rfl; omega) (.inr (.inr ⟨g, c, e, f, rfl⟩)) fun s ks as => ?_
    simp!
    have e2 : (stepRw sz L rec (.swap g c e f) W).1 = none := by
      show (if (W.cells.getD c 0 : Int) = e.val W.r then _ else _ : Res).1 = none
      split <;> rfl
    have q := hq s ks as
    rw [e2] at q
    exact q
theorem dorows (so : SzOk sz L) : ∀ (h k : Nat), RowsDo sz L w cl hd tr co (k + 3 * h + 8) (doRows sz L h) h := by
  intro h
  induction h with
  | zero =>
    intro k rows depth loops W st Q X A ok hr lt hq
    rw [show rows = [] from hr] at hq ⊢
    refine call_z f_Walk_do_rows.fn rfl rfl ?_
    show wpB T (Call T (k + 3 * 0 + 7)) none b_Walk_do_rows [some (.ref w), some (.tup []), none, none] st _
    unfold b_Walk_do_rows
    simp!
    refine for_s (fun r env s => r = [] ∧ s = st) ⟨rfl, rfl⟩ (fun d r env s N ⟨e, _⟩ hN => by cases e) (fun env s ⟨_, e⟩ => ?_)
    simp!
    rw [e]
    exact hq st (.refl _ _ _ _ _) A
  | succ h ih =>
    intro k rows depth loops W st Q X A ok hr lt hq
    refine call_z f_Walk_do_rows.fn rfl rfl ?_
    show wpB T (Call T (k + 3 * h + 10)) none b_Walk_do_rows [some (.ref w), some (.tup (Rw.ds rows)), none, none] st _
    unfold b_Walk_do_rows
    simp!
    have hq : After sz L w cl hd tr co st (rowsOf (stepRw sz L (doRows sz L h)) rows W).2 fun s => Q (ansD (rowsOf (stepRw sz L (doRows sz L h)) rows W).1) s := hq
    refine for_s (fun r env s => ∃ (rs : List Rw) (W1 : Wk) (o1 o2 : Option D), r = Rw.ds rs ∧ (∀ x ∈ rs, x ∈ rows) ∧ rowsOf (stepRw sz L (doRows sz L h)) rs W1 = rowsOf (stepRw sz L (doRows sz L h)) rows W ∧ K4 w cl hd tr st s ∧ WAt sz L w cl hd tr co s W1 ∧ W1.ok sz L ∧ W1.trace.length + Rw.msts rs < 1000000 ∧ env = [some (.ref w), some (.tup (Rw.ds rows)), o1, o2]) ⟨rows, W, none, none, rfl, fun _ m => m, rfl, .refl _ _ _ _ _, A, ok, lt, rfl⟩ (fun d r env s N ⟨rs, W1, o1, o2, e1, e2, e3, e4, e5, e6, e7, e8⟩ hN => ?_) (fun env s ⟨rs, W1, o1, o2, e1, e2, e3, e4, e5, e6, e7, e8⟩ => ?_)
    · subst e8
      cases rs with
      | nil => cases e1
      | cons x rs =>
        have e1 : d :: r = x.d :: Rw.ds rs := e1
        injection e1 with e1 e1'
        subst e1 e1'
        have xo := rowsOk_row hr (e2 x List.mem_cons_self)
        have e7 : W1.trace.length + (x.mst + Rw.msts rs) < 1000000 := e7
        have q1 := step_tr so (rec := doRows sz L h) (fun rows depth loops W h1 h2 => rows_tr so h rows depth loops W h1 h2) xo e6
        have q2 := step_ok so (rec := doRows sz L h) (fun rows depth loops W h1 h2 => rows_ok so h rows depth loops W h1 h2) xo e6
        have ew := e5.o
        unfold wkO at ew
        rw [rowsOf_c] at e3
        simp! [ew]
        refine dorow (k := k + 3 * h) (h := h) (rec := doRows sz L h) so (ih k) (fun rows depth loops W h1 h2 => rows_tr so h rows depth loops W h1 h2) e5 e6 xo (by omega) (by have := ih (k + 1); rw [show k + 1 + 3 * h + 8 = k + 3 * h + 9 by omega] at this; exact this) fun s2 k2 a2 => ?_
        cases ea : stepRw sz L (doRows sz L h) x W1 with
        | mk a W2 =>
          rw [ea] at e3 q1 q2 a2
          cases a with
          | some a =>
            rw [← e3] at hq
            simp! [ansD]
            exact hq s2 (e4.trans k2) a2
          | none =>
            simp! [ansD]
            exact hN _ _ ⟨rs, W2, _, _, rfl, fun y m => e2 y (List.mem_cons_of_mem _ m), e3, e4.trans k2, a2, q2, by dsimp only at q1; omega, rfl⟩
    · subst e8
      cases rs with
      | cons x rs => cases e1
      | nil =>
        rw [← e3] at hq
        simp!
        exact hq s e4 e5
end
end Y.K_k12
set_option linter.all false
set_option maxHeartbeats 4000000
set_option maxRecDepth 100000
namespace Y.K_k12
open Y PySem
local macro_rules
  | `(tactic| simp! [$ls,*]) => `(tactic| simp (implicitDefEqProofs := false) (dsimp := false) (failIfUnchanged := false) only [lz1, z_ifT, z_ifF, k_c0, k_c1, k_c2, k_c3, k_c4, k_c5, k_c6, k_few0, k_fewS, k_lkm, k_pf0, k_pfh, k_pfm, k_cls, k_clsO, ks_nx, ks_rt, ks_bk, ks_ct, ks_xc, kl_nx, kl_rt, kl_bk, kl_ct, kl_xc, kc_nx, kc_rt, kc_xc, kt_nx, kt_rt, kt_bk, kt_ct, kt_xc, kh_nx, kh_rt, un_n, un_s, isNon_1, isNon_2, isNon_3, isNon_4, isNon_5, isNon_6, isNon_7, boolQ_1, intQ_1, optQ_1, lstQ_1, sqQ_1, sqQ_2, cntQ_1, cntQ_2, cntQ_3, dicQ_1, insQ_1, getIx_0, getIx_1, getIx_2, getIx_3, getIx_4, getIx_5, ixrQ_1, ixrQ_2, ixrQ_3, ixrQ_4, setIx_0, setIx_1, setIx_2, bindQ_nm, bindL_0, bindL_1, bindQ_tp, z_var, z_con, z_glo, z_bin, z_neg, z_cmp, z_chain, z_isN, z_notN, z_and, z_or, z_not, z_ife, z_call, z_make, methQ_1, z_meth, z_fld, z_pr, z_me, z_isi, z_idx, z_sli, z_abs0, z_tup, z_lst, z_dic, z_dcomp, z_fstr, z_efld, z_eisi, z_comp, z_Tcmp, z_Tchain, z_TisN, z_TnotN, z_Tand, z_Tor, z_Tnot, z_Ttv, z_nil, z_cons, z_Fnil, z_Fcons, z_Tsn, z_Ts1, z_rng1, int2Q_1, z_rng2, z_enm, z_zip, z_sq, z_Bnil, z_Bcons, z_asg, z_asgt, z_asg2, z_setf, z_seti, augQ_1, augQ_2, z_augn, z_augf, z_exp, z_ret, z_retN, z_if, z_for, z_whl, z_brk, z_cnt, z_pas, z_rais0, z_rais1, z_try, z_Hnil, z_Hcons, v_v0, v_vs, v_add, v_sub, v_mul, v_fdiv, v_mod, v_pow, v_sadd, v_tadd, v_ladd, v_lmul, v_int, v_intb, v_abs, v_max2, v_min2, v_stri, v_lens, v_lenm, v_len0, v_len1, v_len2, v_len3, v_len4, v_len5, v_len6, v_lenr, v_tupt, v_tupr, v_lstt, v_lstr, v_any, v_all, v_ixt, v_ixr, v_kon, v_seti, strQ_1, strQ_2, strQ_3, v_pts, v_ptn, v_sls, v_slt, v_slr, v_fld, v_setf, v_okl, v_oks, v_app, v_pop, v_lt, v_le, v_gt, v_ge, v_eq, v_ne, v_in, v_ni, v_eqii, v_eqss, v_eqbb, v_eqsi, v_eqis, v_eqni, v_eqin, v_eqns, v_eqsn, v_trn, v_trb, v_tri, v_trt, v_trr, v_trs, v_fms, v_fmi, v_inp, inrQ_1, inrQ_2, inrQ_3, v_inl, v_inK, v_ins, t_n, t_b, t_i, t_s, t_t, t_r, tyO_1, tyO_2, tyO_3, tyO_4, y_n, y_b, y_i, y_s, y_t, y_l, y_d, y_o, y_o1, y_o2, y_o3, y_o4, y_o5, y_o6, w_t, w_s, w_r, w_e, w_zs, w_zt, List.map_cons, List.map_nil, List.replicate_succ, List.replicate_zero, List.cons_append, List.nil_append, List.append_nil, List.set_cons_zero, List.set_cons_succ, List.any_cons, List.any_nil, List.lookup_cons_self, meT, reduceCtorEq, decide_true, decide_false, Bool.or_false, Bool.false_or, Bool.or_true, Bool.true_or, Bool.not_true, Bool.not_false, Bool.and_true, Bool.true_and, Bool.and_false, Bool.false_and, true_and, and_true, wipeE, Option.isSome_some, Option.isSome_none, List.getElem?_concat_length, Nat.reduceBEq, Int.reduceEq, Int.reduceLT, Int.reduceLE, Int.reduceNeg, glo_0, glo_1, glo_2, glo_3, glo_4, glo_5, glo_6, glo_7, glo_8, konn_0, konq_0_0, konq_0_1, konq_0_2, konq_0_3, konq_0_4, konq_0_5, konq_0_6, konq_0_7, alt_0, alt_1, alt_2, alt_3, alt_4, alt_5, alt_6, alt_7, alt_8, exf_0, exf_1, exf_2, exf_3, exf_4, exf_5, c_PastError, c_NoName, c_NoState, c_HasCoins, c_NoVault, c_NoRow, c_Body, c_Walk, c_Vault, d_size_row, d_choice_table, d_coined, d_used, d_trace, d_cells, d_result, d_begin, d_deed_row, d_coin_count, d_row_count, d_many_cells, d_body_table, d_coins, d_held, d_cell_row, d_part, d_index, $ls,*])
local macro_rules
  | `(tactic| simp!) => `(tactic| simp (implicitDefEqProofs := false) (dsimp := false) (failIfUnchanged := false) only [lz1, z_ifT, z_ifF, k_c0, k_c1, k_c2, k_c3, k_c4, k_c5, k_c6, k_few0, k_fewS, k_lkm, k_pf0, k_pfh, k_pfm, k_cls, k_clsO, ks_nx, ks_rt, ks_bk, ks_ct, ks_xc, kl_nx, kl_rt, kl_bk, kl_ct, kl_xc, kc_nx, kc_rt, kc_xc, kt_nx, kt_rt, kt_bk, kt_ct, kt_xc, kh_nx, kh_rt, un_n, un_s, isNon_1, isNon_2, isNon_3, isNon_4, isNon_5, isNon_6, isNon_7, boolQ_1, intQ_1, optQ_1, lstQ_1, sqQ_1, sqQ_2, cntQ_1, cntQ_2, cntQ_3, dicQ_1, insQ_1, getIx_0, getIx_1, getIx_2, getIx_3, getIx_4, getIx_5, ixrQ_1, ixrQ_2, ixrQ_3, ixrQ_4, setIx_0, setIx_1, setIx_2, bindQ_nm, bindL_0, bindL_1, bindQ_tp, z_var, z_con, z_glo, z_bin, z_neg, z_cmp, z_chain, z_isN, z_notN, z_and, z_or, z_not, z_ife, z_call, z_make, methQ_1, z_meth, z_fld, z_pr, z_me, z_isi, z_idx, z_sli, z_abs0, z_tup, z_lst, z_dic, z_dcomp, z_fstr, z_efld, z_eisi, z_comp, z_Tcmp, z_Tchain, z_TisN, z_TnotN, z_Tand, z_Tor, z_Tnot, z_Ttv, z_nil, z_cons, z_Fnil, z_Fcons, z_Tsn, z_Ts1, z_rng1, int2Q_1, z_rng2, z_enm, z_zip, z_sq, z_Bnil, z_Bcons, z_asg, z_asgt, z_asg2, z_setf, z_seti, augQ_1, augQ_2, z_augn, z_augf, z_exp, z_ret, z_retN, z_if, z_for, z_whl, z_brk, z_cnt, z_pas, z_rais0, z_rais1, z_try, z_Hnil, z_Hcons, v_v0, v_vs, v_add, v_sub, v_mul, v_fdiv, v_mod, v_pow, v_sadd, v_tadd, v_ladd, v_lmul, v_int, v_intb, v_abs, v_max2, v_min2, v_stri, v_lens, v_lenm, v_len0, v_len1, v_len2, v_len3, v_len4, v_len5, v_len6, v_lenr, v_tupt, v_tupr, v_lstt, v_lstr, v_any, v_all, v_ixt, v_ixr, v_kon, v_seti, strQ_1, strQ_2, strQ_3, v_pts, v_ptn, v_sls, v_slt, v_slr, v_fld, v_setf, v_okl, v_oks, v_app, v_pop, v_lt, v_le, v_gt, v_ge, v_eq, v_ne, v_in, v_ni, v_eqii, v_eqss, v_eqbb, v_eqsi, v_eqis, v_eqni, v_eqin, v_eqns, v_eqsn, v_trn, v_trb, v_tri, v_trt, v_trr, v_trs, v_fms, v_fmi, v_inp, inrQ_1, inrQ_2, inrQ_3, v_inl, v_inK, v_ins, t_n, t_b, t_i, t_s, t_t, t_r, tyO_1, tyO_2, tyO_3, tyO_4, y_n, y_b, y_i, y_s, y_t, y_l, y_d, y_o, y_o1, y_o2, y_o3, y_o4, y_o5, y_o6, w_t, w_s, w_r, w_e, w_zs, w_zt, List.map_cons, List.map_nil, List.replicate_succ, List.replicate_zero, List.cons_append, List.nil_append, List.append_nil, List.set_cons_zero, List.set_cons_succ, List.any_cons, List.any_nil, List.lookup_cons_self, meT, reduceCtorEq, decide_true, decide_false, Bool.or_false, Bool.false_or, Bool.or_true, Bool.true_or, Bool.not_true, Bool.not_false, Bool.and_true, Bool.true_and, Bool.and_false, Bool.false_and, true_and, and_true, wipeE, Option.isSome_some, Option.isSome_none, List.getElem?_concat_length, Nat.reduceBEq, Int.reduceEq, Int.reduceLT, Int.reduceLE, Int.reduceNeg, glo_0, glo_1, glo_2, glo_3, glo_4, glo_5, glo_6, glo_7, glo_8, konn_0, konq_0_0, konq_0_1, konq_0_2, konq_0_3, konq_0_4, konq_0_5, konq_0_6, konq_0_7, alt_0, alt_1, alt_2, alt_3, alt_4, alt_5, alt_6, alt_7, alt_8, exf_0, exf_1, exf_2, exf_3, exf_4, exf_5, c_PastError, c_NoName, c_NoState, c_HasCoins, c_NoVault, c_NoRow, c_Body, c_Walk, c_Vault, d_size_row, d_choice_table, d_coined, d_used, d_trace, d_cells, d_result, d_begin, d_deed_row, d_coin_count, d_row_count, d_many_cells, d_body_table, d_coins, d_held, d_cell_row, d_part, d_index])
def Vt.sz (V : Vt) : List Nat := V.cells.map (·.1)
def startW (s : List Nat) (n : Nat) : Wk := ⟨s, ⟨0, 0, 0, 0, n⟩, 0, []⟩
def runW (V : Vt) (L : List Int) (s : List Nat) (x : Dd) (n : Nat) : Res := doRows V.sz L 12 x.rows (startW s n)
def ansOf (r : Res) : Int := match r.1 with
  | none => 0
  | some a => a
theorem zip_map1 : ∀ (cs : List (Nat × Nat)) (s : List Nat), (cs.map (·.1)).zip s = (cs.zip s).map fun p => (p.1.1, p.2)
  | [], s => rfl
  | c :: cs, [] => rfl
  | c :: cs, n :: s => by
    rw [List.map_cons, List.zip_cons_cons, zip_map1 cs s]
    rfl
theorem startW_ok {V : Vt} (ok : V.ok) {L : List Int} {s : List Nat} (hs : V.st s) {n : Nat} (hn : n ≤ 9) : (startW s n).ok V.sz L :=
  ⟨by unfold Vt.sz startW; simp [hs.1], fun p hp => by
    unfold Vt.sz startW at hp
    rw [zip_map1] at hp
    obtain ⟨q, hq, rfl⟩ := List.mem_map.mp hp
    exact hs.2 q hq, ⟨(show (0 : Int) ≤ 0 ∧ (0 : Int) ≤ 9 by decide), (show (0 : Int) ≤ 0 ∧ (0 : Int) ≤ 9 by decide), (show (0 : Int) ≤ 0 ∧ (0 : Int) ≤ 9 by decide), (show (0 : Int) ≤ 0 ∧ (0 : Int) ≤ 9 by decide), ⟨by show (0 : Int) ≤ (n : Int); omega, by show (n : Int) ≤ 9; omega⟩⟩, Nat.zero_le _⟩
theorem V_so {V : Vt} (ok : V.ok) {L : List Int} (hL : ∀ c ∈ L, c = 0 ∨ c = 1) : SzOk V.sz L := ⟨fun s hs => by
  obtain ⟨c, hc, rfl⟩ := List.mem_map.mp hs
  have := ok.cell c hc
  exact ⟨this.1, this.2.1⟩, hL⟩
theorem V_szlen {V : Vt} : V.sz.length = V.cells.length := by simp [Vt.sz]
theorem runW_ok {V : Vt} (ok : V.ok) {L : List Int} (hL : ∀ c ∈ L, c = 0 ∨ c = 1) {s : List Nat} (hs : V.st s) {x : Dd} {n : Nat} (hc : CallOf V x n) : (runW V L s x n).2.ok V.sz L :=
  rows_ok (V_so ok hL) 12 x.rows 1 0 _ (by rw [V_szlen]; exact (ok.deed x hc.mem).rows) (startW_ok ok hs (by have := (ok.deed x hc.mem).hi; have := hc.lt; omega))
structure WDn (V : Vt) (w cl tr : Nat) (s : Store) (R : Res) : Prop where
  o : ∃ hd co, s[w]? = some (.ins c_Walk [(d_size_row, .tup (V.sz.map natD)), (d_cells, .ref cl), (d_held, .ref hd), (d_coins, co), (d_used, natD R.2.used), (d_trace, .ref tr), (d_result, .int (ansOf R))])
  c : s[cl]? = some (.lst (R.2.cells.map natD))
  t : s[tr]? = some (.lst R.2.trace)
theorem walkinit {k w v n : Nat} {V : Vt} {L : List Int} {s : List Nat} {x : Dd} {co : D} {st : Store} {Q : QE} {X : QX} (hv : IsV st v V) (hs : V.st s) (hc : CallOf V x n) (hL : ∀ c ∈ L, c = 0 ∨ c = 1) (ew : st[w]? = some (.ins c_Walk []))
    (hco : (∃ g, co = .ref g ∧ st[g]? = some (.lst (L.map D.int))) ∨ co = .tup (L.map D.int)) (hq : ∀ s' cl tr, Kb w st s' → st.length ≤ tr → WDn V w cl tr s' (runW V L s x n) → Q .non s') : Call T (k + 46) n_Walk___init__ [.ref w, .ref v, stD s, calD x n, co] st Q X := by
  refine call_z f_Walk___init__.fn rfl rfl ?_
  show wpB T (Call T (k + 45)) none b_Walk___init__ [some (.ref w), some (.ref v), some (stD s), some (calD x n), some co] st _
  unfold b_Walk___init__
  obtain ⟨ct, bt, e1, e2, e3⟩ := hv.flds
  have nwv : v ≠ w := fun e => by rw [e, ew] at e1; cases e1
  have nwb : bt ≠ w := fun e => by rw [e, ew] at e3; cases e3
  have lw := lt_of_get ew
  have sze : (V.cells.map fun c : Nat × Nat => D.int c.1) = V.sz.map natD := by unfold Vt.sz; rw [List.map_map]; rfl
  rw [sze] at e1
  have n9 : n ≤ 9 := by have := (hv.ok.deed x hc.mem).hi; have := hc.lt; omega
  -- size_row
  simp! [e1, ew]
  generalize h1 : st.set w _ = s1
  have b1 : Kb w st s1 := by rw [← h1]; exact (Kb.refl w st).set _
  have w1 : s1[w]? = some (.ins c_Walk [(d_size_row, .tup (V.sz.map natD))]) := by rw [← h1]; exact set_get ew
  have l1 : s1.length = st.length := by rw [← h1]; simp
  clear h1
  -- cells
  simp! [stD]
  have w1' := get_app [.lst (s.map fun n : Nat => D.int n)] w1
  have b1' := b1.keep (.new _ [.lst (s.map fun n : Nat => D.int n)])
  have c1' : (s1 ++ [O.lst (s.map fun n : Nat => D.int n)])[st.length]? = some (.lst (s.map natD)) := by rw [← l1]; exact get_snoc _ _
  simp! [w1', l1]
  generalize h2 : List.set _ w _ = s2
  have b2 : Kb w st s2 := by rw [← h2]; exact b1'.set _
  have w2 : s2[w]? = some (.ins c_Walk [(d_size_row, .tup (V.sz.map natD)), (d_cells, .ref st.length)]) := by rw [← h2]; exact set_get w1'
  have c2 : s2[st.length]? = some (.lst (s.map natD)) := by rw [← h2]; exact get_set c1' (by omega)
  have l2 : s2.length = st.length + 1 := by rw [← h2]; simp [l1]
  clear h2 b1 b1' w1 w1' c1'
  -- held
  have w2' := get_app [.dic (startW s n).r.dc] w2
  have b2' := b2.keep (.new _ [.dic (startW s n).r.dc])
  have c2' := get_app [.dic (startW s n).r.dc] c2
  have h2' : (s2 ++ [O.dic (startW s n).r.dc])[st.length + 1]? = some (.dic (startW s n).r.dc) := by rw [← l2]; exact get_snoc _ _
  have disp : ∀ {F : QE}, dispQ (s2 ++ [.dic []]) s2.length [.str [97], .int 0, .str [98], .int 0, .str [99], .int 0, .str [100], .int 0, .str [120], .int n] F = F (.ref s2.length) (s2 ++ [.dic (startW s n).r.dc]) := fun {F} => by
    unfold dispQ
    rw [get_snoc]
    show (_ ∧ _ ∧ F _ ((s2 ++ [O.dic []]).set s2.length (.dic (mergeD _)))) = _
    rw [set_last]
    exact propext ⟨fun h => h.2.2, fun h => ⟨rfl, (show (5 : Nat) ≤ 15 by decide), h⟩⟩
  rw [l2] at disp
  simp! [calD, disp, w2', l2]
  generalize h3 : List.set _ w _ = s3
  have b3 : Kb w st s3 := by rw [← h3]; exact b2'.set _
  have w3 : s3[w]? = some (.ins c_Walk [(d_size_row, .tup (V.sz.map natD)), (d_cells, .ref st.length), (d_held, .ref (st.length + 1))]) := by rw [← h3]; exact set_get w2'
  have c3 : s3[st.length]? = some (.lst (s.map natD)) := by rw [← h3]; exact get_set c2' (by omega)
  have h3' : s3[st.length + 1]? = some (.dic (startW s n).r.dc) := by rw [← h3]; exact get_set h2' (by omega)
  have l3 : s3.length = st.length + 2 := by rw [← h3]; simp [l2]
  clear h3 b2 b2' w2 w2' c2 c2' h2' disp
  -- coins, used
  have g3 : ∀ o : O, (s3.set w o)[w]? = some o := fun o => set_get w3
  simp! [w3, g3, List.set_set]
  generalize h4 : s3.set w _ = s4
  have b4 : Kb w st s4 := by rw [← h4]; exact b3.set _
  have w4 : s4[w]? = some (.ins c_Walk [(d_size_row, .tup (V.sz.map natD)), (d_cells, .ref st.length), (d_held, .ref (st.length + 1)), (d_coins, co), (d_used, .int 0)]) := by rw [← h4]; exact set_get w3
  have c4 : s4[st.length]? = some (.lst (s.map natD)) := by rw [← h4]; exact get_set c3 (by omega)
  have h4' : s4[st.length + 1]? = some (.dic (startW s n).r.dc) := by rw [← h4]; exact get_set h3' (by omega)
  have l4 : s4.length = st.length + 2 := by rw [← h4]; simp [l3]
  clear h4 b3 w3 c3 h3' g3
  -- trace
  have w4' := get_app [.lst []] w4
  have b4' := b4.keep (.new _ [.lst []])
  have c4' := get_app [.lst []] c4
  have h4'' := get_app [.lst []] h4'
  have t4' : (s4 ++ [O.lst []])[st.length + 2]? = some (.lst []) := by rw [← l4]; exact get_snoc _ _
  simp! [w4', l4]
  generalize h5 : List.set _ w _ = s5
  have b5 : Kb w st s5 := by rw [← h5]; exact b4'.set _
  have w5 : s5[w]? = some (wkO V.sz st.length (st.length + 1) (st.length + 2) co 0) := by rw [← h5]; exact set_get w4'
  have c5 : s5[st.length]? = some (.lst (s.map natD)) := by rw [← h5]; exact get_set c4' (by omega)
  have h5' : s5[st.length + 1]? = some (.dic (startW s n).r.dc) := by rw [← h5]; exact get_set h4'' (by omega)
  have t5 : s5[st.length + 2]? = some (.lst []) := by rw [← h5]; exact get_set t4' (by omega)
  have l5 : s5.length = st.length + 3 := by rw [← h5]; simp [l4]
  clear h5 b4 b4' w4 w4' c4 c4' h4' h4'' t4'
  have A : WAt V.sz L w st.length (st.length + 1) (st.length + 2) co s5 (startW s n) := by
    refine ⟨w5, c5, h5', t5, by omega, ?_⟩
    rcases hco with ⟨g, hg, eg⟩ | hg
    · have lg := lt_of_get eg
      exact .inl ⟨g, hg, by omega, by omega, b5.get eg (fun e => by rw [e, ew] at eg; cases eg)⟩
    · exact .inr hg
  have e1' := b5.get e1 nwv
  have e3' := b5.get e3 nwb
  have w5' := w5
  unfold wkO at w5'
  have so := V_so hv.ok hL
  have ro : rowsOk 12 V.sz.length 1 0 x.rows := by rw [V_szlen]; exact (hv.ok.deed x hc.mem).rows
  have ml := mst_le 12 ro (by decide)
  have szl := (hv.ok.deed x hc.mem).size
  have wok := startW_ok hv.ok (L := L) hs n9
  simp! [e1', e3', w5', boGet hv.ok hc.mem]
  refine dorows so 12 (k + 1) x.rows 1 0 _ s5 _ X A wok ro (by show 0 + _ < _; have : 9 ^ (2 - 0) * Rw.sizes x.rows ≤ 81 * 2000 := Nat.mul_le_mul (by decide) szl; omega) fun s6 k6 A6 => ?_
  have b6 : Kb w st s6 := ⟨Nat.le_trans b5.len k6.len, fun h n l => (k6.same h n (by omega) (by omega) (by omega) (by omega)).trans (b5.same h n l)⟩
  have w6 := A6.o
  unfold wkO at w6
  have g6 : ∀ o : O, (s6.set w o)[w]? = some o := fun o => set_get A6.o
  have e0 : doRows V.sz L 12 x.rows (startW s n) = runW V L s x n := rfl
  rw [e0] at A6 w6 ⊢
  cases ea : (runW V L s x n).1 with
  | none =>
    have an : ansOf (runW V L s x n) = 0 := by unfold ansOf; rw [ea]
    simp! [ansD, w6, g6, List.set_set]
    refine hq _ st.length (st.length + 2) (b6.set _) (by omega) ⟨⟨st.length + 1, co, ?_⟩, get_set A6.c (by omega), get_set A6.t (by omega)⟩
    rw [g6, an]
  | some a =>
    have an : ansOf (runW V L s x n) = a := by unfold ansOf; rw [ea]
    simp! [ansD, w6, g6, List.set_set]
    refine hq _ st.length (st.length + 2) (b6.set _) (by omega) ⟨⟨st.length + 1, co, ?_⟩, get_set A6.c (by omega), get_set A6.t (by omega)⟩
    rw [g6, an]
theorem run_ {k v n : Nat} {V : Vt} {L : List Int} {s : List Nat} {x : Dd} {co : D} {st : Store} {Q : QE} {X : QX} (hv : IsV st v V) (hs : V.st s) (hc : CallOf V x n) (hL : ∀ c ∈ L, c = 0 ∨ c = 1)
    (hco : (∃ g, co = .ref g ∧ st[g]? = some (.lst (L.map D.int))) ∨ co = .tup (L.map D.int)) (hq : ∀ s' tr, Keep st s' → st.length ≤ tr → s'[tr]? = some (.lst (runW V L s x n).2.trace) → Q (.tup [.int (ansOf (runW V L s x n)), stD (runW V L s x n).2.cells, .ref tr, natD (runW V L s x n).2.used]) s') : Call T (k + 47) n_run [.ref v, stD s, calD x n, co] st Q X := by
  refine call_z f_run.fn rfl rfl ?_
  show wpB T (Call T (k + 46)) none b_run [some (.ref v), some (stD s), some (calD x n), some co, none] st _
  unfold b_run
  simp!
  refine walkinit (w := st.length) (hv.keep (.new _ _)) hs hc hL (get_snoc _ _) (by rcases hco with ⟨g, h1, h2⟩ | h; exact .inl ⟨g, h1, get_app _ h2⟩; exact .inr h) fun s' cl tr kb lt dn => ?_
  obtain ⟨hd, co', eo⟩ := dn.o
  simp! [eo, dn.c]
  exact hq s' tr (kb.cut (Nat.le_refl _)) (by rw [List.length_append] at lt; omega) dn.t
end Y.K_k12
set_option linter.all false
set_option maxHeartbeats 4000000
set_option maxRecDepth 100000
namespace Y.K_k12
open Y PySem
local macro_rules
  | `(tactic| simp! [$ls,*]) => `(tactic| simp (implicitDefEqProofs := false) (dsimp := false) (failIfUnchanged := false) only [lz1, z_ifT, z_ifF, k_c0, k_c1, k_c2, k_c3, k_c4, k_c5, k_c6, k_few0, k_fewS, k_lkm, k_pf0, k_pfh, k_pfm, k_cls, k_clsO, ks_nx, ks_rt, ks_bk, ks_ct, ks_xc, kl_nx, kl_rt, kl_bk, kl_ct, kl_xc, kc_nx, kc_rt, kc_xc, kt_nx, kt_rt, kt_bk, kt_ct, kt_xc, kh_nx, kh_rt, un_n, un_s, isNon_1, isNon_2, isNon_3, isNon_4, isNon_5, isNon_6, isNon_7, boolQ_1, intQ_1, optQ_1, lstQ_1, sqQ_1, sqQ_2, cntQ_1, cntQ_2, cntQ_3, dicQ_1, insQ_1, getIx_0, getIx_1, getIx_2, getIx_3, getIx_4, getIx_5, ixrQ_1, ixrQ_2, ixrQ_3, ixrQ_4, setIx_0, setIx_1, setIx_2, bindQ_nm, bindL_0, bindL_1, bindQ_tp, z_var, z_con, z_glo, z_bin, z_neg, z_cmp, z_chain, z_isN, z_notN, z_and, z_or, z_not, z_ife, z_call, z_make, methQ_1, z_meth, z_fld, z_pr, z_me, z_isi, z_idx, z_sli, z_abs0, z_tup, z_lst, z_dic, z_dcomp, z_fstr, z_efld, z_eisi, z_comp, z_Tcmp, z_Tchain, z_TisN, z_TnotN, z_Tand, z_Tor, z_Tnot, z_Ttv, z_nil, z_cons, z_Fnil, z_Fcons, z_Tsn, z_Ts1, z_rng1, int2Q_1, z_rng2, z_enm, z_zip, z_sq, z_Bnil, z_Bcons, z_asg, z_asgt, z_asg2, z_setf, z_seti, augQ_1, augQ_2, z_augn, z_augf, z_exp, z_ret, z_retN, z_if, z_for, z_whl, z_brk, z_cnt, z_pas, z_rais0, z_rais1, z_try, z_Hnil, z_Hcons, v_v0, v_vs, v_add, v_sub, v_mul, v_fdiv, v_mod, v_pow, v_sadd, v_tadd, v_ladd, v_lmul, v_int, v_intb, v_abs, v_max2, v_min2, v_stri, v_lens, v_lenm, v_len0, v_len1, v_len2, v_len3, v_len4, v_len5, v_len6, v_lenr, v_tupt, v_tupr, v_lstt, v_lstr, v_any, v_all, v_ixt, v_ixr, v_kon, v_seti, strQ_1, strQ_2, strQ_3, v_pts, v_ptn, v_sls, v_slt, v_slr, v_fld, v_setf, v_okl, v_oks, v_app, v_pop, v_lt, v_le, v_gt, v_ge, v_eq, v_ne, v_in, v_ni, v_eqii, v_eqss, v_eqbb, v_eqsi, v_eqis, v_eqni, v_eqin, v_eqns, v_eqsn, v_trn, v_trb, v_tri, v_trt, v_trr, v_trs, v_fms, v_fmi, v_inp, inrQ_1, inrQ_2, inrQ_3, v_inl, v_inK, v_ins, t_n, t_b, t_i, t_s, t_t, t_r, tyO_1, tyO_2, tyO_3, tyO_4, y_n, y_b, y_i, y_s, y_t, y_l, y_d, y_o, y_o1, y_o2, y_o3, y_o4, y_o5, y_o6, w_t, w_s, w_r, w_e, w_zs, w_zt, List.map_cons, List.map_nil, List.replicate_succ, List.replicate_zero, List.cons_append, List.nil_append, List.append_nil, List.set_cons_zero, List.set_cons_succ, List.any_cons, List.any_nil, List.lookup_cons_self, meT, reduceCtorEq, decide_true, decide_false, Bool.or_false, Bool.false_or, Bool.or_true, Bool.true_or, Bool.not_true, Bool.not_false, Bool.and_true, Bool.true_and, Bool.and_false, Bool.false_and, true_and, and_true, wipeE, Option.isSome_some, Option.isSome_none, List.getElem?_concat_length, Nat.reduceBEq, Int.reduceEq, Int.reduceLT, Int.reduceLE, Int.reduceNeg, glo_0, glo_1, glo_2, glo_3, glo_4, glo_5, glo_6, glo_7, glo_8, konn_0, konq_0_0, konq_0_1, konq_0_2, konq_0_3, konq_0_4, konq_0_5, konq_0_6, konq_0_7, alt_0, alt_1, alt_2, alt_3, alt_4, alt_5, alt_6, alt_7, alt_8, exf_0, exf_1, exf_2, exf_3, exf_4, exf_5, c_PastError, c_NoName, c_NoState, c_HasCoins, c_NoVault, c_NoRow, c_Body, c_Walk, c_Vault, d_size_row, d_choice_table, d_coined, d_used, d_trace, d_cells, d_result, d_begin, d_deed_row, d_coin_count, d_row_count, d_many_cells, d_body_table, d_coins, d_held, d_cell_row, d_part, d_index, $ls,*])
local macro_rules
  | `(tactic| simp!) => `(tactic| simp (implicitDefEqProofs := false) (dsimp := false) (failIfUnchanged := false) only [lz1, z_ifT, z_ifF, k_c0, k_c1, k_c2, k_c3, k_c4, k_c5, k_c6, k_few0, k_fewS, k_lkm, k_pf0, k_pfh, k_pfm, k_cls, k_clsO, ks_nx, ks_rt, ks_bk, ks_ct, ks_xc, kl_nx, kl_rt, kl_bk, kl_ct, kl_xc, kc_nx, kc_rt, kc_xc, kt_nx, kt_rt, kt_bk, kt_ct, kt_xc, kh_nx, kh_rt, un_n, un_s, isNon_1, isNon_2, isNon_3, isNon_4, isNon_5, isNon_6, isNon_7, boolQ_1, intQ_1, optQ_1, lstQ_1, sqQ_1, sqQ_2, cntQ_1, cntQ_2, cntQ_3, dicQ_1, insQ_1, getIx_0, getIx_1, getIx_2, getIx_3, getIx_4, getIx_5, ixrQ_1, ixrQ_2, ixrQ_3, ixrQ_4, setIx_0, setIx_1, setIx_2, bindQ_nm, bindL_0, bindL_1, bindQ_tp, z_var, z_con, z_glo, z_bin, z_neg, z_cmp, z_chain, z_isN, z_notN, z_and, z_or, z_not, z_ife, z_call, z_make, methQ_1, z_meth, z_fld, z_pr, z_me, z_isi, z_idx, z_sli, z_abs0, z_tup, z_lst, z_dic, z_dcomp, z_fstr, z_efld, z_eisi, z_comp, z_Tcmp, z_Tchain, z_TisN, z_TnotN, z_Tand, z_Tor, z_Tnot, z_Ttv, z_nil, z_cons, z_Fnil, z_Fcons, z_Tsn, z_Ts1, z_rng1, int2Q_1, z_rng2, z_enm, z_zip, z_sq, z_Bnil, z_Bcons, z_asg, z_asgt, z_asg2, z_setf, z_seti, augQ_1, augQ_2, z_augn, z_augf, z_exp, z_ret, z_retN, z_if, z_for, z_whl, z_brk, z_cnt, z_pas, z_rais0, z_rais1, z_try, z_Hnil, z_Hcons, v_v0, v_vs, v_add, v_sub, v_mul, v_fdiv, v_mod, v_pow, v_sadd, v_tadd, v_ladd, v_lmul, v_int, v_intb, v_abs, v_max2, v_min2, v_stri, v_lens, v_lenm, v_len0, v_len1, v_len2, v_len3, v_len4, v_len5, v_len6, v_lenr, v_tupt, v_tupr, v_lstt, v_lstr, v_any, v_all, v_ixt, v_ixr, v_kon, v_seti, strQ_1, strQ_2, strQ_3, v_pts, v_ptn, v_sls, v_slt, v_slr, v_fld, v_setf, v_okl, v_oks, v_app, v_pop, v_lt, v_le, v_gt, v_ge, v_eq, v_ne, v_in, v_ni, v_eqii, v_eqss, v_eqbb, v_eqsi, v_eqis, v_eqni, v_eqin, v_eqns, v_eqsn, v_trn, v_trb, v_tri, v_trt, v_trr, v_trs, v_fms, v_fmi, v_inp, inrQ_1, inrQ_2, inrQ_3, v_inl, v_inK, v_ins, t_n, t_b, t_i, t_s, t_t, t_r, tyO_1, tyO_2, tyO_3, tyO_4, y_n, y_b, y_i, y_s, y_t, y_l, y_d, y_o, y_o1, y_o2, y_o3, y_o4, y_o5, y_o6, w_t, w_s, w_r, w_e, w_zs, w_zt, List.map_cons, List.map_nil, List.replicate_succ, List.replicate_zero, List.cons_append, List.nil_append, List.append_nil, List.set_cons_zero, List.set_cons_succ, List.any_cons, List.any_nil, List.lookup_cons_self, meT, reduceCtorEq, decide_true, decide_false, Bool.or_false, Bool.false_or, Bool.or_true, Bool.true_or, Bool.not_true, Bool.not_false, Bool.and_true, Bool.true_and, Bool.and_false, Bool.false_and, true_and, and_true, wipeE, Option.isSome_some, Option.isSome_none, List.getElem?_concat_length, Nat.reduceBEq, Int.reduceEq, Int.reduceLT, Int.reduceLE, Int.reduceNeg, glo_0, glo_1, glo_2, glo_3, glo_4, glo_5, glo_6, glo_7, glo_8, konn_0, konq_0_0, konq_0_1, konq_0_2, konq_0_3, konq_0_4, konq_0_5, konq_0_6, konq_0_7, alt_0, alt_1, alt_2, alt_3, alt_4, alt_5, alt_6, alt_7, alt_8, exf_0, exf_1, exf_2, exf_3, exf_4, exf_5, c_PastError, c_NoName, c_NoState, c_HasCoins, c_NoVault, c_NoRow, c_Body, c_Walk, c_Vault, d_size_row, d_choice_table, d_coined, d_used, d_trace, d_cells, d_result, d_begin, d_deed_row, d_coin_count, d_row_count, d_many_cells, d_body_table, d_coins, d_held, d_cell_row, d_part, d_index])
theorem drawE : ∀ (n : Nat) {k h : Nat} {m : Int} {st : Store} {Q : QE} {X : QX}, m = n → Pool h st → (∀ (e : Ex) (s : Store), e.ok n → Ch h st s → Q e.d s) → Call T (k + n + 2) n__law_e [.ref h, .int m] st Q X := by
  intro n
  induction n with
  | zero =>
    intro k h m st Q X hm P hq
    refine call_z f__law_e.fn rfl rfl ?_
    show wpB T (Call T (k + 1)) none b__law_e [some (.ref h), some (.int m), none, none, none] st _
    unfold b__law_e
    have m0 : decide (m = 0) = true := decide_eq_true (by omega)
    simp! [m0]
    refine draw (by decide) (by decide) P fun v s1 v0 v1 _ c1 => ?_
    simp! [m0]
    refine ifd (fun _ => ?_) (fun nz => ?_)
    · simp!
      refine draw (by decide) (by decide) c1.pool fun n s2 n0 n1 _ c2 => ?_
      simp!
      exact hq (.num n) s2 ⟨n0, by omega⟩ (c1.trans c2)
    · simp! [m0]
      refine ifd (fun _ => ?_) (fun n3 => ?_)
      · simp! [m0]
        refine draw (by decide) (by decide) c1.pool fun n s2 n0 n1 _ c2 => ?_
        simp!
        exact hq (.num n) s2 ⟨n0, by omega⟩ (c1.trans c2)
      · have lt3 : decide (v < 3) = true := decide_eq_true (by omega)
        simp! [lt3, m0]
        refine draw (by decide) (by decide) c1.pool fun n s2 n0 n1 _ c2 => ?_
        simp!
        refine sign_of n0 n1 (by decide) fun c hc => ?_
        simp!
        exact hq (.reg c) s2 hc (c1.trans c2)
  | succ n ih =>
    intro k h m st Q X hm P hq
    refine call_z f__law_e.fn rfl rfl ?_
    show wpB T (Call T (k + n + 2)) none b__law_e [some (.ref h), some (.int m), none, none, none] st _
    unfold b__law_e
    have m0 : decide (m = 0) = false := decide_eq_false (by omega)
    simp! [m0]
    refine draw (k := k + n + 1) (by decide) (by decide) P fun v s1 v0 v1 _ c1 => ?_
    simp! [m0]
    refine ifd (fun _ => ?_) (fun nz => ?_)
    · simp!
      refine draw (k := k + n + 1) (by decide) (by decide) c1.pool fun n s2 n0 n1 _ c2 => ?_
      simp!
      exact hq (.num n) s2 ⟨n0, by omega⟩ (c1.trans c2)
    · simp! [m0]
      refine ifd (fun _ => ?_) (fun n3 => ?_)
      all_goals
        simp! [m0]
        refine ifd (fun _ => ?_) (fun _ => ?_)
        · simp!
          refine draw (k := k + n + 1) (by decide) (by decide) c1.pool fun n s2 n0 n1 _ c2 => ?_
          simp!
          refine sign_of n0 n1 (by decide) fun c hc => ?_
          simp!
          exact hq (.reg c) s2 hc (c1.trans c2)
        · simp!
          refine draw (k := k + n + 1) (by decide) (by decide) c1.pool fun u s2 u0 u1 _ c2 => ?_
          simp!
          refine sign_of u0 u1 (by decide) fun sg hs => ?_
          simp!
          refine ih (k := k) (by omega) c2.pool fun a s3 ha c3 => ?_
          simp!
          refine ih (k := k) (by omega) c3.pool fun b s4 hb c4 => ?_
          simp!
          exact hq (.op sg a b) s4 ⟨hs, ha, hb⟩ (((c1.trans c2).trans c3).trans c4)
theorem lawvalue : ∀ (n : Nat) (e : Ex), e.ok n → ∀ (k hd : Nat) (r : Rg) (st : Store) (Q : QE) (X : QX), st[hd]? = some (.dic r.dc) → r.ok → Q (.int (e.val r)) st → Call T (k + n + 1) n__law_value [e.d, .ref hd] st Q X := by
  intro n
  induction n with
  | zero =>
    intro e he k hd r st Q X eh hr hq
    refine call_z f__law_value.fn rfl rfl ?_
    show wpB T (Call T k) none b__law_value [some e.d, some (.ref hd), none, none] st _
    unfold b__law_value
    cases e with
    | num i =>
      simp! [Ex.d]
      exact hq
    | reg c =>
      simp! [Ex.d, eh, Rg.getK he]
      exact hq
    | op s a b => cases he
  | succ n ih =>
    intro e he k hd r st Q X eh hr hq
    refine call_z f__law_value.fn rfl rfl ?_
    show wpB T (Call T (k + n + 1)) none b__law_value [some e.d, some (.ref hd), none, none] st _
    unfold b__law_value
    cases e with
    | num i =>
      simp! [Ex.d]
      exact hq
    | reg c =>
      simp! [Ex.d, eh, Rg.getK he]
      exact hq
    | op s a b =>
      have va := Ex.val_ok hr he.2.1
      have vb := Ex.val_ok hr he.2.2
      have hq : Q (.int (opv s (a.val r) (b.val r))) st := hq
      simp! [Ex.d]
      refine ih a he.2.1 k hd r st _ X eh hr ?_
      simp! [Ex.d]
      refine ih b he.2.2 k hd r st _ X eh hr ?_
      generalize a.val r = va' at *
      generalize b.val r = vb' at *
      simp! [Ex.d]
      have hs : s = 43 ∨ s = 45 ∨ s = 42 ∨ s = 61 ∨ s = 60 := by simpa [signs] using he.1
      have ic : ∀ c : Prop, ∀ [Decidable c], (if decide c = true then (1 : Int) else 0) = if c then 1 else 0 := fun c _ => by by_cases h : c <;> simp [h]
      rcases hs with e | e | e | e | e <;> subst e
      · have t1 : decide (([43] : List Nat) = [61]) = false := by decide
        have t2 : decide (([43] : List Nat) = [60]) = false := by decide
        have t3 : decide (([43] : List Nat) = [42]) = false := by decide
        have t4 : decide (([43] : List Nat) = [45]) = false := by decide
        simp! [t1, t2, t3, t4]
        refine ⟨.inl ⟨by decide, by decide⟩, .inl ⟨by omega, by omega⟩, ?_⟩
        simp!
        have e : va' + vb' * (1 - 2 * (if false = true then 1 else 0)) = va' + vb' := by simp
        simp only [Bool.false_eq_true, if_false, e, Int.mul_zero, Int.sub_zero, Int.mul_one] at *
        exact hq
      · have t1 : decide (([45] : List Nat) = [61]) = false := by decide
        have t2 : decide (([45] : List Nat) = [60]) = false := by decide
        have t3 : decide (([45] : List Nat) = [42]) = false := by decide
        have t4 : decide (([45] : List Nat) = [45]) = true := by decide
        simp! [t1, t2, t3, t4]
        refine ⟨.inl ⟨by decide, by decide⟩, .inl ⟨by omega, by omega⟩, ?_⟩
        simp!
        have e : va' + vb' * (1 - 2 * 1) = va' - vb' := by omega
        simp only [if_true, e] at *
        exact hq
      · have t1 : decide (([42] : List Nat) = [61]) = false := by decide
        have t2 : decide (([42] : List Nat) = [60]) = false := by decide
        have t3 : decide (([42] : List Nat) = [42]) = true := by decide
        simp! [t1, t2, t3]
        refine ⟨.inl ⟨by omega, by omega⟩, ?_⟩
        simp!
        exact hq
      · have t1 : decide (([61] : List Nat) = [61]) = true := by decide
        simp! [t1]
        rw [ic]
        exact hq
      · have t1 : decide (([60] : List Nat) = [61]) = false := by decide
        have t2 : decide (([60] : List Nat) = [60]) = true := by decide
        simp! [t1, t2]
        rw [ic]
        exact hq
def plain : Nat → D → Prop
  | _, .int _ => True
  | _, .str _ => True
  | n + 1, .tup ds => ds.length ≤ 1000 ∧ ∀ d ∈ ds, plain n d
  | _, _ => False
theorem same : ∀ (n : Nat) (d : D), plain n d → ∀ (k : Nat) (st : Store) (Q : QE) (X : QX), Q (.bl true) st → Call T (k + n + 1) n__law_same [d, d] st Q X := by
  intro n
  induction n with
  | zero =>
    intro d hd k st Q X hq
    refine call_z f__law_same.fn rfl rfl ?_
    show wpB T (Call T (k + 0)) none b__law_same [some d, some d, none] st _
    unfold b__law_same
    cases d with
    | int i =>
      simp!
      exact hq
    | str x =>
      simp!
      exact hq
    | _ => cases hd
  | succ n ih =>
    intro d hd k st Q X hq
    refine call_z f__law_same.fn rfl rfl ?_
    show wpB T (Call T (k + (n + 1))) none b__law_same [some d, some d, none] st _
    unfold b__law_same
    cases d with
    | int i =>
      simp!
      exact hq
    | str x =>
      simp!
      exact hq
    | tup ds =>
      have hl := hd.1
      simp! [v_lent]
      refine ⟨by omega, by omega, ?_⟩
      rw [Int.toNat_natCast, rngD_rg]
      refine for_s (fun r env s => ∃ (i m : Nat) (o : Option D), i + m = ds.length ∧ r = rg i m ∧ s = st ∧ env = [some (.tup ds), some (.tup ds), o]) ⟨0, ds.length, none, by omega, rfl, rfl, rfl⟩ (fun d r env s N ⟨i, m, o, e1, e2, e3, e4⟩ hN => ?_) (fun env s ⟨i, m, o, e1, e2, e3, e4⟩ => ?_)
      · subst e3 e4
        cases m with
        | zero => cases e2
        | succ m =>
          rw [rg_succ] at e2
          cases e2
          have il : i < ds.length := by omega
          simp! [getIx_n il]
          refine ih ds[i] (hd.2 _ (List.getElem_mem il)) k s _ _ ?_
          simp!
          exact hN _ _ ⟨i + 1, m, _, by omega, rfl, rfl, rfl⟩
      · subst e3 e4
        cases m with
        | succ m => rw [rg_succ] at e2; cases e2
        | zero =>
          simp!
          exact hq
    | _ => cases hd
theorem same_nil {k a b : Nat} {st : Store} {Q : QE} {X : QX} (ea : st[a]? = some (.lst [])) (eb : st[b]? = some (.lst [])) (hq : Q (.bl true) st) : Call T (k + 1) n__law_same [.ref a, .ref b] st Q X := by
  refine call_z f__law_same.fn rfl rfl ?_
  show wpB T (Call T k) none b__law_same [some (.ref a), some (.ref b), none] st _
  unfold b__law_same
  simp! [ea, eb, List.length_nil]
  refine ⟨by decide, by decide, ?_⟩
  refine for_s (ds := []) (fun r env s => r = [] ∧ s = st) ⟨rfl, rfl⟩ (fun d r env s N ⟨e, _⟩ hN => by cases e) (fun env s ⟨_, e⟩ => ?_)
  simp!
  rw [e]
  exact hq
end Y.K_k12
set_option linter.all false
set_option maxHeartbeats 1600000
set_option maxRecDepth 100000
namespace Y.K_k12
open Y PySem
local macro_rules
  | `(tactic| simp! [$ls,*]) => `(tactic| simp (implicitDefEqProofs := false) (dsimp := false) (failIfUnchanged := false) only [lz1, z_ifT, z_ifF, k_c0, k_c1, k_c2, k_c3, k_c4, k_c5, k_c6, k_few0, k_fewS, k_lkm, k_pf0, k_pfh, k_pfm, k_cls, k_clsO, ks_nx, ks_rt, ks_bk, ks_ct, ks_xc, kl_nx, kl_rt, kl_bk, kl_ct, kl_xc, kc_nx, kc_rt, kc_xc, kt_nx, kt_rt, kt_bk, kt_ct, kt_xc, kh_nx, kh_rt, un_n, un_s, isNon_1, isNon_2, isNon_3, isNon_4, isNon_5, isNon_6, isNon_7, boolQ_1, intQ_1, optQ_1, lstQ_1, sqQ_1, sqQ_2, cntQ_1, cntQ_2, cntQ_3, dicQ_1, insQ_1, getIx_0, getIx_1, getIx_2, getIx_3, getIx_4, getIx_5, ixrQ_1, ixrQ_2, ixrQ_3, ixrQ_4, setIx_0, setIx_1, setIx_2, bindQ_nm, bindL_0, bindL_1, bindQ_tp, z_var, z_con, z_glo, z_bin, z_neg, z_cmp, z_chain, z_isN, z_notN, z_and, z_or, z_not, z_ife, z_call, z_make, methQ_1, z_meth, z_fld, z_pr, z_me, z_isi, z_idx, z_sli, z_abs0, z_tup, z_lst, z_dic, z_dcomp, z_fstr, z_efld, z_eisi, z_comp, z_Tcmp, z_Tchain, z_TisN, z_TnotN, z_Tand, z_Tor, z_Tnot, z_Ttv, z_nil, z_cons, z_Fnil, z_Fcons, z_Tsn, z_Ts1, z_rng1, int2Q_1, z_rng2, z_enm, z_zip, z_sq, z_Bnil, z_Bcons, z_asg, z_asgt, z_asg2, z_setf, z_seti, augQ_1, augQ_2, z_augn, z_augf, z_exp, z_ret, z_retN, z_if, z_for, z_whl, z_brk, z_cnt, z_pas, z_rais0, z_rais1, z_try, z_Hnil, z_Hcons, v_v0, v_vs, v_add, v_sub, v_mul, v_fdiv, v_mod, v_pow, v_sadd, v_tadd, v_ladd, v_lmul, v_int, v_intb, v_abs, v_max2, v_min2, v_stri, v_lens, v_lenm, v_len0, v_len1, v_len2, v_len3, v_len4, v_len5, v_len6, v_lenr, v_tupt, v_tupr, v_lstt, v_lstr, v_any, v_all, v_ixt, v_ixr, v_kon, v_seti, strQ_1, strQ_2, strQ_3, v_pts, v_ptn, v_sls, v_slt, v_slr, v_fld, v_setf, v_okl, v_oks, v_app, v_pop, v_lt, v_le, v_gt, v_ge, v_eq, v_ne, v_in, v_ni, v_eqii, v_eqss, v_eqbb, v_eqsi, v_eqis, v_eqni, v_eqin, v_eqns, v_eqsn, v_trn, v_trb, v_tri, v_trt, v_trr, v_trs, v_fms, v_fmi, v_inp, inrQ_1, inrQ_2, inrQ_3, v_inl, v_inK, v_ins, t_n, t_b, t_i, t_s, t_t, t_r, tyO_1, tyO_2, tyO_3, tyO_4, y_n, y_b, y_i, y_s, y_t, y_l, y_d, y_o, y_o1, y_o2, y_o3, y_o4, y_o5, y_o6, w_t, w_s, w_r, w_e, w_zs, w_zt, List.map_cons, List.map_nil, List.replicate_succ, List.replicate_zero, List.cons_append, List.nil_append, List.append_nil, List.set_cons_zero, List.set_cons_succ, List.any_cons, List.any_nil, List.lookup_cons_self, meT, reduceCtorEq, decide_true, decide_false, Bool.or_false, Bool.false_or, Bool.or_true, Bool.true_or, Bool.not_true, Bool.not_false, Bool.and_true, Bool.true_and, Bool.and_false, Bool.false_and, true_and, and_true, wipeE, Option.isSome_some, Option.isSome_none, List.getElem?_concat_length, Nat.reduceBEq, Int.reduceEq, Int.reduceLT, Int.reduceLE, Int.reduceNeg, glo_0, glo_1, glo_2, glo_3, glo_4, glo_5, glo_6, glo_7, glo_8, konn_0, konq_0_0, konq_0_1, konq_0_2, konq_0_3, konq_0_4, konq_0_5, konq_0_6, konq_0_7, alt_0, alt_1, alt_2, alt_3, alt_4, alt_5, alt_6, alt_7, alt_8, exf_0, exf_1, exf_2, exf_3, exf_4, exf_5, c_PastError, c_NoName, c_NoState, c_HasCoins, c_NoVault, c_NoRow, c_Body, c_Walk, c_Vault, d_size_row, d_choice_table, d_coined, d_used, d_trace, d_cells, d_result, d_begin, d_deed_row, d_coin_count, d_row_count, d_many_cells, d_body_table, d_coins, d_held, d_cell_row, d_part, d_index, $ls,*])
local macro_rules
  | `(tactic| simp!) => `(tactic| simp (implicitDefEqProofs := false) (dsimp := false) (failIfUnchanged := false) only [lz1, z_ifT, z_ifF, k_c0, k_c1, k_c2, k_c3, k_c4, k_c5, k_c6, k_few0, k_fewS, k_lkm, k_pf0, k_pfh, k_pfm, k_cls, k_clsO, ks_nx, ks_rt, ks_bk, ks_ct, ks_xc, kl_nx, kl_rt, kl_bk, kl_ct, kl_xc, kc_nx, kc_rt, kc_xc, kt_nx, kt_rt, kt_bk, kt_ct, kt_xc, kh_nx, kh_rt, un_n, un_s, isNon_1, isNon_2, isNon_3, isNon_4, isNon_5, isNon_6, isNon_7, boolQ_1, intQ_1, optQ_1, lstQ_1, sqQ_1, sqQ_2, cntQ_1, cntQ_2, cntQ_3, dicQ_1, insQ_1, getIx_0, getIx_1, getIx_2, getIx_3, getIx_4, getIx_5, ixrQ_1, ixrQ_2, ixrQ_3, ixrQ_4, setIx_0, setIx_1, setIx_2, bindQ_nm, bindL_0, bindL_1, bindQ_tp, z_var, z_con, z_glo, z_bin, z_neg, z_cmp, z_chain, z_isN, z_notN, z_and, z_or, z_not, z_ife, z_call, z_make, methQ_1, z_meth, z_fld, z_pr, z_me, z_isi, z_idx, z_sli, z_abs0, z_tup, z_lst, z_dic, z_dcomp, z_fstr, z_efld, z_eisi, z_comp, z_Tcmp, z_Tchain, z_TisN, z_TnotN, z_Tand, z_Tor, z_Tnot, z_Ttv, z_nil, z_cons, z_Fnil, z_Fcons, z_Tsn, z_Ts1, z_rng1, int2Q_1, z_rng2, z_enm, z_zip, z_sq, z_Bnil, z_Bcons, z_asg, z_asgt, z_asg2, z_setf, z_seti, augQ_1, augQ_2, z_augn, z_augf, z_exp, z_ret, z_retN, z_if, z_for, z_whl, z_brk, z_cnt, z_pas, z_rais0, z_rais1, z_try, z_Hnil, z_Hcons, v_v0, v_vs, v_add, v_sub, v_mul, v_fdiv, v_mod, v_pow, v_sadd, v_tadd, v_ladd, v_lmul, v_int, v_intb, v_abs, v_max2, v_min2, v_stri, v_lens, v_lenm, v_len0, v_len1, v_len2, v_len3, v_len4, v_len5, v_len6, v_lenr, v_tupt, v_tupr, v_lstt, v_lstr, v_any, v_all, v_ixt, v_ixr, v_kon, v_seti, strQ_1, strQ_2, strQ_3, v_pts, v_ptn, v_sls, v_slt, v_slr, v_fld, v_setf, v_okl, v_oks, v_app, v_pop, v_lt, v_le, v_gt, v_ge, v_eq, v_ne, v_in, v_ni, v_eqii, v_eqss, v_eqbb, v_eqsi, v_eqis, v_eqni, v_eqin, v_eqns, v_eqsn, v_trn, v_trb, v_tri, v_trt, v_trr, v_trs, v_fms, v_fmi, v_inp, inrQ_1, inrQ_2, inrQ_3, v_inl, v_inK, v_ins, t_n, t_b, t_i, t_s, t_t, t_r, tyO_1, tyO_2, tyO_3, tyO_4, y_n, y_b, y_i, y_s, y_t, y_l, y_d, y_o, y_o1, y_o2, y_o3, y_o4, y_o5, y_o6, w_t, w_s, w_r, w_e, w_zs, w_zt, List.map_cons, List.map_nil, List.replicate_succ, List.replicate_zero, List.cons_append, List.nil_append, List.append_nil, List.set_cons_zero, List.set_cons_succ, List.any_cons, List.any_nil, List.lookup_cons_self, meT, reduceCtorEq, decide_true, decide_false, Bool.or_false, Bool.false_or, Bool.or_true, Bool.true_or, Bool.not_true, Bool.not_false, Bool.and_true, Bool.true_and, Bool.and_false, Bool.false_and, true_and, and_true, wipeE, Option.isSome_some, Option.isSome_none, List.getElem?_concat_length, Nat.reduceBEq, Int.reduceEq, Int.reduceLT, Int.reduceLE, Int.reduceNeg, glo_0, glo_1, glo_2, glo_3, glo_4, glo_5, glo_6, glo_7, glo_8, konn_0, konq_0_0, konq_0_1, konq_0_2, konq_0_3, konq_0_4, konq_0_5, konq_0_6, konq_0_7, alt_0, alt_1, alt_2, alt_3, alt_4, alt_5, alt_6, alt_7, alt_8, exf_0, exf_1, exf_2, exf_3, exf_4, exf_5, c_PastError, c_NoName, c_NoState, c_HasCoins, c_NoVault, c_NoRow, c_Body, c_Walk, c_Vault, d_size_row, d_choice_table, d_coined, d_used, d_trace, d_cells, d_result, d_begin, d_deed_row, d_coin_count, d_row_count, d_many_cells, d_body_table, d_coins, d_held, d_cell_row, d_part, d_index])
structure Ch2 (h b : Nat) (st st' : Store) : Prop where
  pool : Pool h st'
  len : st.length ≤ st'.length
  same : ∀ g, g ≠ h → g ≠ b → g < st.length → st'[g]? = st[g]?
theorem Ch.two {h b : Nat} {st st' : Store} (x : Ch h st st') : Ch2 h b st st' := ⟨x.pool, x.len, fun g n _ l => x.same g n l⟩
theorem Ch2.trans {h b : Nat} {x y z : Store} (p : Ch2 h b x y) (q : Ch2 h b y z) : Ch2 h b x z := ⟨q.pool, Nat.le_trans p.len q.len, fun g n m l => (q.same g n m (Nat.lt_of_lt_of_le l p.len)).trans (p.same g n m l)⟩
theorem Ch2.refl {h b : Nat} {st : Store} (p : Pool h st) : Ch2 h b st st := ⟨p, Nat.le_refl _, fun _ _ _ _ => rfl⟩
theorem Ch2.app {h b : Nat} {x y c : Store} (p : Ch2 h b x y) : Ch2 h b x (y ++ c) := ⟨p.pool.app, by rw [List.length_append]; exact Nat.le_trans p.len (Nat.le_add_right _ _), fun g n m l => by rw [List.getElem?_append_left (Nat.lt_of_lt_of_le l p.len)]; exact p.same g n m l⟩
theorem Ch2.set {h b g : Nat} {o : O} {x y : Store} (p : Ch2 h b x y) (ne : g ≠ h) (l : x.length ≤ g) : Ch2 h b x (y.set g o) := ⟨p.pool.set ne, by simpa using p.len, fun k n m l2 => by rw [List.getElem?_set_ne (by omega)]; exact p.same k n m l2⟩
theorem Ch2.setB {h b : Nat} {o : O} {x y : Store} (p : Ch2 h b x y) (ne : b ≠ h) : Ch2 h b x (y.set b o) := ⟨p.pool.set ne, by simpa using p.len, fun k n m l2 => by rw [List.getElem?_set_ne (Ne.symm m)]; exact p.same k n m l2⟩
theorem Ch2.get {h b g : Nat} {x y : Store} {o : O} (p : Ch2 h b x y) (e : x[g]? = some o) (n : g ≠ h) (m : g ≠ b) : y[g]? = some o := (p.same g n m (lt_of_get e)).trans e
theorem lawcells {k h : Nat} {st : Store} {Q : QE} {X : QX} (P : Pool h st) (hq : ∀ (cs : List (Nat × Nat)) (s : Store), 1 ≤ cs.length → cs.length ≤ 3 → (∀ c ∈ cs, 2 ≤ c.1 ∧ c.1 ≤ 5 ∧ c.2 < c.1) → (cs.length = 3 → ∀ c ∈ cs, c.1 ≤ 3) → s[st.length]? = some (.lst (cs.map cellD)) → Ch h st s → Q (.ref st.length) s) : Call T (k + 2) n__law_cells [.ref h] st Q X := by
  refine call_z f__law_cells.fn rfl rfl ?_
  show wpB T (Call T (k + 1)) none b__law_cells [some (.ref h), none, none, none, none] st _
  unfold b__law_cells
  simp!
  refine draw (by decide) (by decide) P fun v s1 v0 v1 l1 c1 => ?_
  have ne : s1.length ≠ h := Nat.ne_of_gt c1.pool.lt
  have g1 := get_snoc s1 (.lst [])
  obtain ⟨n, hn⟩ : ∃ a : Nat, 1 + v = a := ⟨(1 + v).toNat, by omega⟩
  have n1 : 1 ≤ n := by omega
  have n3 : n ≤ 3 := by omega
  simp!
  rw [hn]
  refine ⟨by omega, by omega, ?_⟩
  rw [Int.toNat_natCast, rngD_rg, l1]
  rw [l1] at ne g1
  refine for_s (fun r env s => ∃ (i m : Nat) (cs : List (Nat × Nat)) (o1 o2 : Option D), i + m = n ∧ r = rg i m ∧ cs.length = i ∧ (∀ c ∈ cs, 2 ≤ c.1 ∧ c.1 ≤ 5 ∧ c.2 < c.1) ∧ (n = 3 → ∀ c ∈ cs, c.1 ≤ 3) ∧ s[st.length]? = some (.lst (cs.map cellD)) ∧ Ch h st s ∧ env = [some (.ref h), some (.int n), some (.ref st.length), o1, o2]) ⟨0, n, [], none, none, by omega, rfl, rfl, (fun c m => by cases m), (fun _ c m => by cases m), g1, c1.app, rfl⟩ (fun d r env s N ⟨i, m, cs, o1, o2, e1, e2, e3, e4, e8, e5, e6, e7⟩ hN => ?_) (fun env s ⟨i, m, cs, o1, o2, e1, e2, e3, e4, e8, e5, e6, e7⟩ => ?_)
  · subst e7
    cases m with
    | zero => cases e2
    | succ m =>
      rw [rg_succ] at e2
      cases e2
      simp!
      have b3 : (if decide ((n : Int) = 3) = true then (1 : Int) else 0) = 0 ∨ ((if decide ((n : Int) = 3) = true then (1 : Int) else 0) = 1) := by split <;> simp
      have b4 : n = 3 → (if decide ((n : Int) = 3) = true then (1 : Int) else 0) = 1 := fun z => by rw [if_pos (decide_eq_true (by omega))]
      generalize (if decide ((n : Int) = 3) = true then (1 : Int) else 0) = bb at b3 b4 ⊢
      refine ⟨.inl ⟨by decide, by decide⟩, ?_⟩
      refine draw (by omega) (by omega) e6.pool fun u s3 u0 u1 _ c3 => ?_
      have e53 := c3.get e5 ne
      simp! [e53]
      refine draw (by omega) (by omega) c3.pool fun w s4 w0 w1 _ c4 => ?_
      have e54 := c4.get e53 ne
      simp! [e54]
      obtain ⟨sz, hsz⟩ : ∃ a : Nat, 2 + u = a := ⟨(2 + u).toNat, by omega⟩
      obtain ⟨fi, hfi⟩ : ∃ a : Nat, w = a := ⟨w.toNat, by omega⟩
      refine ⟨lt_line (by rw [List.length_map]; omega), hN _ _ ⟨i + 1, m, cs ++ [(sz, fi)], _, _, by omega, rfl, by simp [e3], fun c hc => ?_, fun z c hc => ?_, ?_, ((e6.trans c3).trans c4).set ne (Nat.le_refl _), rfl⟩⟩
      · rcases List.mem_append.mp hc with z | z
        · exact e4 c z
        · rw [List.mem_singleton.mp z]
          exact ⟨by show 2 ≤ sz; omega, by show sz ≤ 5; omega, by show fi < sz; omega⟩
      · rcases List.mem_append.mp hc with y | y
        · exact e8 z c y
        · rw [List.mem_singleton.mp y]
          have := b4 z
          show sz ≤ 3
          omega
      · rw [set_get e54, List.map_append, hsz, hfi]
        rfl
  · subst e7
    cases m with
    | succ m => rw [rg_succ] at e2; cases e2
    | zero =>
      simp!
      exact hq cs s (by omega) (by omega) e4 (fun z => e8 (by omega)) e5 e6
end Y.K_k12
set_option linter.all false
set_option maxHeartbeats 1600000
set_option maxRecDepth 100000
namespace Y.K_k12
open Y PySem
local macro_rules
  | `(tactic| simp! [$ls,*]) => `(tactic| simp (implicitDefEqProofs := false) (dsimp := false) (failIfUnchanged := false) only [lz1, z_ifT, z_ifF, k_c0, k_c1, k_c2, k_c3, k_c4, k_c5, k_c6, k_few0, k_fewS, k_lkm, k_pf0, k_pfh, k_pfm, k_cls, k_clsO, ks_nx, ks_rt, ks_bk, ks_ct, ks_xc, kl_nx, kl_rt, kl_bk, kl_ct, kl_xc, kc_nx, kc_rt, kc_xc, kt_nx, kt_rt, kt_bk, kt_ct, kt_xc, kh_nx, kh_rt, un_n, un_s, isNon_1, isNon_2, isNon_3, isNon_4, isNon_5, isNon_6, isNon_7, boolQ_1, intQ_1, optQ_1, lstQ_1, sqQ_1, sqQ_2, cntQ_1, cntQ_2, cntQ_3, dicQ_1, insQ_1, getIx_0, getIx_1, getIx_2, getIx_3, getIx_4, getIx_5, ixrQ_1, ixrQ_2, ixrQ_3, ixrQ_4, setIx_0, setIx_1, setIx_2, bindQ_nm, bindL_0, bindL_1, bindQ_tp, z_var, z_con, z_glo, z_bin, z_neg, z_cmp, z_chain, z_isN, z_notN, z_and, z_or, z_not, z_ife, z_call, z_make, methQ_1, z_meth, z_fld, z_pr, z_me, z_isi, z_idx, z_sli, z_abs0, z_tup, z_lst, z_dic, z_dcomp, z_fstr, z_efld, z_eisi, z_comp, z_Tcmp, z_Tchain, z_TisN, z_TnotN, z_Tand, z_Tor, z_Tnot, z_Ttv, z_nil, z_cons, z_Fnil, z_Fcons, z_Tsn, z_Ts1, z_rng1, int2Q_1, z_rng2, z_enm, z_zip, z_sq, z_Bnil, z_Bcons, z_asg, z_asgt, z_asg2, z_setf, z_seti, augQ_1, augQ_2, z_augn, z_augf, z_exp, z_ret, z_retN, z_if, z_for, z_whl, z_brk, z_cnt, z_pas, z_rais0, z_rais1, z_try, z_Hnil, z_Hcons, v_v0, v_vs, v_add, v_sub, v_mul, v_fdiv, v_mod, v_pow, v_sadd, v_tadd, v_ladd, v_lmul, v_int, v_intb, v_abs, v_max2, v_min2, v_stri, v_lens, v_lenm, v_len0, v_len1, v_len2, v_len3, v_len4, v_len5, v_len6, v_lenr, v_tupt, v_tupr, v_lstt, v_lstr, v_any, v_all, v_ixt, v_ixr, v_kon, v_seti, strQ_1, strQ_2, strQ_3, v_pts, v_ptn, v_sls, v_slt, v_slr, v_fld, v_setf, v_okl, v_oks, v_app, v_pop, v_lt, v_le, v_gt, v_ge, v_eq, v_ne, v_in, v_ni, v_eqii, v_eqss, v_eqbb, v_eqsi, v_eqis, v_eqni, v_eqin, v_eqns, v_eqsn, v_trn, v_trb, v_tri, v_trt, v_trr, v_trs, v_fms, v_fmi, v_inp, inrQ_1, inrQ_2, inrQ_3, v_inl, v_inK, v_ins, t_n, t_b, t_i, t_s, t_t, t_r, tyO_1, tyO_2, tyO_3, tyO_4, y_n, y_b, y_i, y_s, y_t, y_l, y_d, y_o, y_o1, y_o2, y_o3, y_o4, y_o5, y_o6, w_t, w_s, w_r, w_e, w_zs, w_zt, List.map_cons, List.map_nil, List.replicate_succ, List.replicate_zero, List.cons_append, List.nil_append, List.append_nil, List.set_cons_zero, List.set_cons_succ, List.any_cons, List.any_nil, List.lookup_cons_self, meT, reduceCtorEq, decide_true, decide_false, Bool.or_false, Bool.false_or, Bool.or_true, Bool.true_or, Bool.not_true, Bool.not_false, Bool.and_true, Bool.true_and, Bool.and_false, Bool.false_and, true_and, and_true, wipeE, Option.isSome_some, Option.isSome_none, List.getElem?_concat_length, Nat.reduceBEq, Int.reduceEq, Int.reduceLT, Int.reduceLE, Int.reduceNeg, glo_0, glo_1, glo_2, glo_3, glo_4, glo_5, glo_6, glo_7, glo_8, konn_0, konq_0_0, konq_0_1, konq_0_2, konq_0_3, konq_0_4, konq_0_5, konq_0_6, konq_0_7, alt_0, alt_1, alt_2, alt_3, alt_4, alt_5, alt_6, alt_7, alt_8, exf_0, exf_1, exf_2, exf_3, exf_4, exf_5, c_PastError, c_NoName, c_NoState, c_HasCoins, c_NoVault, c_NoRow, c_Body, c_Walk, c_Vault, d_size_row, d_choice_table, d_coined, d_used, d_trace, d_cells, d_result, d_begin, d_deed_row, d_coin_count, d_row_count, d_many_cells, d_body_table, d_coins, d_held, d_cell_row, d_part, d_index, $ls,*])
local macro_rules
  | `(tactic| simp!) => `(tactic| simp (implicitDefEqProofs := false) (dsimp := false) (failIfUnchanged := false) only [lz1, z_ifT, z_ifF, k_c0, k_c1, k_c2, k_c3, k_c4, k_c5, k_c6, k_few0, k_fewS, k_lkm, k_pf0, k_pfh, k_pfm, k_cls, k_clsO, ks_nx, ks_rt, ks_bk, ks_ct, ks_xc, kl_nx, kl_rt, kl_bk, kl_ct, kl_xc, kc_nx, kc_rt, kc_xc, kt_nx, kt_rt, kt_bk, kt_ct, kt_xc, kh_nx, kh_rt, un_n, un_s, isNon_1, isNon_2, isNon_3, isNon_4, isNon_5, isNon_6, isNon_7, boolQ_1, intQ_1, optQ_1, lstQ_1, sqQ_1, sqQ_2, cntQ_1, cntQ_2, cntQ_3, dicQ_1, insQ_1, getIx_0, getIx_1, getIx_2, getIx_3, getIx_4, getIx_5, ixrQ_1, ixrQ_2, ixrQ_3, ixrQ_4, setIx_0, setIx_1, setIx_2, bindQ_nm, bindL_0, bindL_1, bindQ_tp, z_var, z_con, z_glo, z_bin, z_neg, z_cmp, z_chain, z_isN, z_notN, z_and, z_or, z_not, z_ife, z_call, z_make, methQ_1, z_meth, z_fld, z_pr, z_me, z_isi, z_idx, z_sli, z_abs0, z_tup, z_lst, z_dic, z_dcomp, z_fstr, z_efld, z_eisi, z_comp, z_Tcmp, z_Tchain, z_TisN, z_TnotN, z_Tand, z_Tor, z_Tnot, z_Ttv, z_nil, z_cons, z_Fnil, z_Fcons, z_Tsn, z_Ts1, z_rng1, int2Q_1, z_rng2, z_enm, z_zip, z_sq, z_Bnil, z_Bcons, z_asg, z_asgt, z_asg2, z_setf, z_seti, augQ_1, augQ_2, z_augn, z_augf, z_exp, z_ret, z_retN, z_if, z_for, z_whl, z_brk, z_cnt, z_pas, z_rais0, z_rais1, z_try, z_Hnil, z_Hcons, v_v0, v_vs, v_add, v_sub, v_mul, v_fdiv, v_mod, v_pow, v_sadd, v_tadd, v_ladd, v_lmul, v_int, v_intb, v_abs, v_max2, v_min2, v_stri, v_lens, v_lenm, v_len0, v_len1, v_len2, v_len3, v_len4, v_len5, v_len6, v_lenr, v_tupt, v_tupr, v_lstt, v_lstr, v_any, v_all, v_ixt, v_ixr, v_kon, v_seti, strQ_1, strQ_2, strQ_3, v_pts, v_ptn, v_sls, v_slt, v_slr, v_fld, v_setf, v_okl, v_oks, v_app, v_pop, v_lt, v_le, v_gt, v_ge, v_eq, v_ne, v_in, v_ni, v_eqii, v_eqss, v_eqbb, v_eqsi, v_eqis, v_eqni, v_eqin, v_eqns, v_eqsn, v_trn, v_trb, v_tri, v_trt, v_trr, v_trs, v_fms, v_fmi, v_inp, inrQ_1, inrQ_2, inrQ_3, v_inl, v_inK, v_ins, t_n, t_b, t_i, t_s, t_t, t_r, tyO_1, tyO_2, tyO_3, tyO_4, y_n, y_b, y_i, y_s, y_t, y_l, y_d, y_o, y_o1, y_o2, y_o3, y_o4, y_o5, y_o6, w_t, w_s, w_r, w_e, w_zs, w_zt, List.map_cons, List.map_nil, List.replicate_succ, List.replicate_zero, List.cons_append, List.nil_append, List.append_nil, List.set_cons_zero, List.set_cons_succ, List.any_cons, List.any_nil, List.lookup_cons_self, meT, reduceCtorEq, decide_true, decide_false, Bool.or_false, Bool.false_or, Bool.or_true, Bool.true_or, Bool.not_true, Bool.not_false, Bool.and_true, Bool.true_and, Bool.and_false, Bool.false_and, true_and, and_true, wipeE, Option.isSome_some, Option.isSome_none, List.getElem?_concat_length, Nat.reduceBEq, Int.reduceEq, Int.reduceLT, Int.reduceLE, Int.reduceNeg, glo_0, glo_1, glo_2, glo_3, glo_4, glo_5, glo_6, glo_7, glo_8, konn_0, konq_0_0, konq_0_1, konq_0_2, konq_0_3, konq_0_4, konq_0_5, konq_0_6, konq_0_7, alt_0, alt_1, alt_2, alt_3, alt_4, alt_5, alt_6, alt_7, alt_8, exf_0, exf_1, exf_2, exf_3, exf_4, exf_5, c_PastError, c_NoName, c_NoState, c_HasCoins, c_NoVault, c_NoRow, c_Body, c_Walk, c_Vault, d_size_row, d_choice_table, d_coined, d_used, d_trace, d_cells, d_result, d_begin, d_deed_row, d_coin_count, d_row_count, d_many_cells, d_body_table, d_coins, d_held, d_cell_row, d_part, d_index])
theorem ds_snoc : ∀ (a : List Rw) (r : Rw), Rw.ds (a ++ [r]) = Rw.ds a ++ [r.d]
  | [], r => rfl
  | x :: a, r => by
    show x.d :: Rw.ds (a ++ [r]) = x.d :: (Rw.ds a ++ [r.d])
    rw [ds_snoc a r]
theorem sizes_snoc : ∀ (a : List Rw) (r : Rw), Rw.sizes (a ++ [r]) = Rw.sizes a + r.size
  | [], r => by show r.size + 0 = 0 + r.size; omega
  | x :: a, r => by
    show x.size + Rw.sizes (a ++ [r]) = x.size + Rw.sizes a + r.size
    rw [sizes_snoc a r]
    omega
theorem coinss_snoc : ∀ (a : List Rw) (r : Rw), Rw.coinss (a ++ [r]) = Rw.coinss a + r.coins
  | [], r => by show r.coins + 0 = 0 + r.coins; omega
  | x :: a, r => by
    show x.coins + Rw.coinss (a ++ [r]) = x.coins + Rw.coinss a + r.coins
    rw [coinss_snoc a r]
    omega
def bnd : Nat → Nat
  | 0 => 3
  | d + 1 => 3 * (1 + 2 * bnd d)
def bndIn : Nat → Nat
  | 0 => 0
  | d + 1 => bnd d
theorem bnd_eq (d : Nat) : bnd d = 3 * (1 + 2 * bndIn d) := by cases d <;> rfl
def RowsP (many d loops : Nat) (rows : List Rw) : Prop := ∀ e dp : Nat, dp + d ≤ 12 → rowsOk (e + d + 1) many dp loops rows
def RowP (many d loops : Nat) (r : Rw) : Prop := ∀ e dp : Nat, dp + d ≤ 12 → rowOk (e + d) many dp loops r
def RowsSpec (many : Nat) (T' : Tab) (lev d : Nat) : Prop := ∀ (h bh loops : Nat) (m : Int) (b : Nat) (st : Store) (Q : QE) (X : QX), m = d → loops + d ≤ 2 → Pool h st → bh ≠ h → st[bh]? = some (.lst [.int b]) →
  (∀ (rows : List Rw) (b' : Nat) (s : Store), RowsP many d loops rows → Rw.sizes rows ≤ bnd d → b' + Rw.coinss rows = b → s[bh]? = some (.lst [.int b']) → Ch2 h bh st s → Q (.tup (Rw.ds rows)) s) → Call T' lev n__law_rows [.ref h, .int many, .int m, .int loops, .ref bh] st Q X
theorem lawrows1 {k d many : Nat} (h1 : 1 ≤ many) (h6 : many ≤ 6) (rec : ∀ d', d = d' + 1 → RowsSpec many T (k + d' + 5) d') : RowsSpec many T (k + d + 5) d := by
  intro h bh loops m b st Q X hm hld P neb eb hq
  subst hm
  refine call_z f__law_rows.fn rfl rfl ?_
  show wpB T (Call T (k + d + 4)) none b__law_rows [some (.ref h), some (.int many), some (.int d), some (.int loops), some (.ref bh), none, none, none, none, none, none, none, none] st _
  unfold b__law_rows
  have ne : st.length ≠ h := Nat.ne_of_gt P.lt
  have neb2 : st.length ≠ bh := Nat.ne_of_gt (lt_of_get eb)
  have c0 : Ch2 h bh st (st ++ [.lst []]) := (Ch2.refl P).app
  simp!
  have b3 : (if decide ((d : Int) = 2) = true then (1 : Int) else 0) = 0 ∨ ((if decide ((d : Int) = 2) = true then (1 : Int) else 0) = 1) := by split <;> simp
  generalize (if decide ((d : Int) = 2) = true then (1 : Int) else 0) = bb at b3 ⊢
  refine draw (k := k + d + 3) (by decide) (by decide) c0.pool fun v s1 v0 v1 _ c1 => ?_
  simp!
  refine ⟨by omega, by omega, ?_⟩
  have nb : (bb + v).toNat ≤ 3 := by omega
  generalize (bb + v).toNat = n at nb ⊢
  rw [rngD_rg]
  have g1 := c1.get (get_snoc st (.lst [])) ne
  have eb1 := c1.get (get_app [.lst []] eb) neb
  have sb := bnd_eq d
  generalize hbi : bndIn d = bi at sb
  refine for_s (fun r env s => ∃ (i m' b' : Nat) (acc : List Rw) (q6 q7 q8 q9 q10 q11 q12 : Option D), i + m' = n ∧ r = rg i m' ∧ acc.length = i ∧ (∀ x ∈ acc, RowP many d loops x) ∧ Rw.sizes acc ≤ i * (1 + 2 * bi) ∧ b' + Rw.coinss acc = b ∧ s[st.length]? = some (.lst (Rw.ds acc)) ∧ s[bh]? = some (.lst [.int b']) ∧ Ch2 h bh st s ∧ env = [some (.ref h), some (.int many), some (.int d), some (.int loops), some (.ref bh), some (.ref st.length), q6, q7, q8, q9, q10, q11, q12]) ⟨0, n, b, [], none, none, none, none, none, none, none, by omega, rfl, rfl, (fun c m => by cases m), by simp [Rw.sizes], by simp [Rw.coinss], g1, eb1, c0.trans c1.two, rfl⟩ (fun d' r env s N ⟨i, m', b', acc, q6, q7, q8, q9, q10, q11, q12, e1, e2, e3, e4, e5, e6, e7, e8, e9, e10⟩ hN => ?_) (fun env s ⟨i, m', b', acc, q6, q7, q8, q9, q10, q11, q12, e1, e2, e3, e4, e5, e6, e7, e8, e9, e10⟩ => ?_)
  · subst e10
    cases m' with
    | zero => cases e2
    | succ m' =>
      rw [rg_succ] at e2
      cases e2
      have fin : ∀ (r : Rw) (b2 : Nat) (s' : Store) (q6 q7 q8 q9 q10 q11 q12 : Option D), RowP many d loops r → r.size ≤ 1 + 2 * bi → b2 + r.coins = b' → s'[bh]? = some (.lst [.int b2]) → Ch2 h bh s s' → ((Rw.ds acc).length < line ∧ N [some (.ref h), some (.int many), some (.int d), some (.int loops), some (.ref bh), some (.ref st.length), q6, q7, q8, q9, q10, q11, q12] (s'.set st.length (.lst (Rw.ds acc ++ [r.d])))) := fun r b2 s' q6 q7 q8 q9 q10 q11 q12 p1 p2 p3 p4 p5 => by
        have g2 := p5.get e7 ne neb2
        refine ⟨lt_line (by rw [ds_len]; omega), hN _ _ ⟨i + 1, m', b2, acc ++ [r], q6, q7, q8, q9, q10, q11, q12, by omega, rfl, by simp [e3], fun x hx => ?_, ?_, ?_, ?_, get_set p4 neb2, (e9.trans p5).set ne (Nat.le_refl _), rfl⟩⟩
        · rcases List.mem_append.mp hx with z | z
          · exact e4 x z
          · rw [List.mem_singleton.mp z]; exact p1
        · rw [sizes_snoc, Nat.add_mul, Nat.one_mul]
          omega
        · rw [coinss_snoc]; omega
        · rw [set_get g2, ds_snoc]
      simp!
      refine draw (k := k + d + 3) (by decide) (by decide) e9.pool fun v s2 v0 v1 _ c2 => ?_
      simp!
      refine draw (k := k + d + 3) (by omega) (by omega) c2.pool fun cc s3 cc0 cc1 _ c3 => ?_
      simp!
      refine draw (k := k + d + 3) (by decide) (by decide) c3.pool fun u s4 u0 u1 _ c4 => ?_
      simp!
      refine sign_of u0 u1 (by decide) fun g hg => ?_
      simp!
      refine drawE 2 (k := k + d) rfl c4.pool fun e s5 he c5 => ?_
      have c := ((c2.trans c3).trans c4).trans c5
      obtain ⟨ci, rfl⟩ : ∃ a : Nat, cc = a := ⟨cc.toNat, by omega⟩
      have hci : ci < many := by omega
      have he6 : e.ok 6 := Ex.ok_mono (by decide) he
      have a5 := c.get e7 ne
      have b5 := c.get e8 neb
      have ct := c.two (b := bh)
      have p5 := c.pool
      clear c2 c3 c4 c5 c cc0 cc1 u0 u1
      have kp : ∀ q11 q12, ((Rw.ds acc).length < line ∧ N [some (.ref h), some (.int many), some (.int d), some (.int loops), some (.ref bh), some (.ref st.length), some (.int i), some (.int v), some (.int ci), some (.str [g]), some e.d, q11, q12] (s5.set st.length (.lst (Rw.ds acc ++ [Rw.d (.keep g e)])))) := fun q11 q12 =>
        fin (.keep g e) b' s5 _ _ _ _ _ _ _ (fun _ _ _ => ⟨hg, he6⟩) (by show 1 ≤ _; omega) rfl b5 ct
      simp! [a5]
      refine ifd (fun z1 => ?_) (fun z1 => ?_)
      · simp! [a5]
        exact fin (.read g ci) b' s5 _ _ _ _ _ _ _ (fun _ _ _ => ⟨hg, hci⟩) (by show 1 ≤ _; omega) rfl b5 ct
      simp! [a5]
      refine ifd (fun z2 => ?_) (fun z2 => ?_)
      · simp! [a5]
        exact fin (.set ci e) b' s5 _ _ _ _ _ _ _ (fun _ _ _ => ⟨hci, he6⟩) (by show 1 ≤ _; omega) rfl b5 ct
      simp! [a5]
      refine ifd (fun z3 => ?_) (fun z3 => ?_)
      · simp! [a5]
        refine drawE 1 (k := k + d + 1) rfl p5 fun f s6 hf c6 => ?_
        simp! [c6.get a5 ne]
        exact fin (.swap g ci e f) b' s6 _ _ _ _ _ _ _ (fun _ _ _ => ⟨hg, hci, he6, Ex.ok_mono (by decide) hf⟩) (by show 1 ≤ _; omega) rfl (c6.get b5 neb) (ct.trans c6.two)
      simp! [a5]
      refine ifd (fun z4 => ?_) (fun z4 => ?_)
      · simp! [a5]
        exact fin (.ans e) b' s5 _ _ _ _ _ _ _ (fun _ _ _ => he6) (by show 1 ≤ _; omega) rfl b5 ct
      by_cases z6 : v = 6
      · subst z6
        by_cases hd : d = 0
        · have t1 : decide (0 < (d : Int)) = false := decide_eq_false (by omega)
          simp! [t1, a5]
          exact kp _ _
        · obtain ⟨d', rfl⟩ : ∃ d', d = d' + 1 := ⟨d - 1, by omega⟩
          have t1 : decide (0 < ((d' + 1 : Nat) : Int)) = true := decide_eq_true (by omega)
          have R := rec d' rfl
          rw [show k + d' + 5 = k + (d' + 1) + 4 by omega] at R
          have hbi : bnd d' = bi := hbi
          simp! [t1, a5]
          refine R h bh loops _ b' s5 _ _ (by omega) (by omega) p5 neb b5 fun r1 b1 s6 q1 q2 q3 q4 q5 => ?_
          have a6 := q5.get a5 ne neb2
          simp! [a6]
          refine R h bh loops _ b1 s6 _ _ (by omega) (by omega) q5.pool neb q4 fun r2 b2 s7 y1 y2 y3 y4 y5 => ?_
          simp! [y5.get a6 ne neb2]
          exact fin (.ife e r1 r2) b2 s7 _ _ _ _ _ _ _ (fun e0 dp hdp => ⟨he6, q1 e0 (dp + 1) (by omega), y1 e0 (dp + 1) (by omega)⟩) (by show 1 + Rw.sizes r1 + Rw.sizes r2 ≤ _; omega) (by show b2 + (Rw.coinss r1 + Rw.coinss r2) = _; omega) y4 ((ct.trans q5).trans y5)
      by_cases z7 : v = 7
      · subst z7
        by_cases hd : d = 0
        · have t1 : decide (0 < (d : Int)) = false := decide_eq_false (by omega)
          simp! [t1, a5]
          exact kp _ _
        · obtain ⟨d', rfl⟩ : ∃ d', d = d' + 1 := ⟨d - 1, by omega⟩
          have t1 : decide (0 < ((d' + 1 : Nat) : Int)) = true := decide_eq_true (by omega)
          have R := rec d' rfl
          rw [show k + d' + 5 = k + (d' + 1) + 4 by omega] at R
          have hbi : bnd d' = bi := hbi
          have lp : ((loops : Int) + 1) = ((loops + 1 : Nat) : Int) := by omega
          simp! [t1, a5]
          refine draw (k := k + (d' + 1) + 3) (by decide) (by decide) p5 fun u s6 u0 u1 _ c6 => ?_
          have a6 := c6.get a5 ne
          simp! [a6]
          refine ifd (fun y => ?_) (fun y => ?_)
          · simp! [a6, lp]
            refine R h bh (loops + 1) _ b' s6 _ _ (by omega) (by omega) c6.pool neb (c6.get b5 neb) fun r2 b2 s7 y1 y2 y3 y4 y5 => ?_
            simp! [y5.get a6 ne neb2]
            exact fin (.times (.reg 120) r2) b2 s7 _ _ _ _ _ _ _ (fun e0 dp hdp => ⟨(show loops < 2 by omega), (show 120 ∈ regs by decide), y1 e0 (dp + 1) (by omega)⟩) (by show 1 + Rw.sizes r2 ≤ _; omega) (by show b2 + Rw.coinss r2 = _; omega) y4 ((ct.trans c6.two).trans y5)
          · simp! [a6, lp]
            refine R h bh (loops + 1) _ b' s6 _ _ (by omega) (by omega) c6.pool neb (c6.get b5 neb) fun r2 b2 s7 y1 y2 y3 y4 y5 => ?_
            simp! [y5.get a6 ne neb2]
            exact fin (.times (.num u) r2) b2 s7 _ _ _ _ _ _ _ (fun e0 dp hdp => ⟨(show loops < 2 by omega), (show 0 ≤ u ∧ u ≤ 9 by omega), y1 e0 (dp + 1) (by omega)⟩) (by show 1 + Rw.sizes r2 ≤ _; omega) (by show b2 + Rw.coinss r2 = _; omega) y4 ((ct.trans c6.two).trans y5)
      have t6 : decide (v = 6) = false := decide_eq_false z6
      have t7 : decide (v = 7) = false := decide_eq_false z7
      by_cases z8 : v = 8
      · have t8 : decide (v = 8) = true := decide_eq_true z8
        by_cases zl : loops = 0
        · subst zl
          by_cases zb : b' = 0
          · have t2 : decide (0 < (b' : Int)) = false := decide_eq_false (by omega)
            simp! [t6, t7, t8, t2, a5, b5]
            exact kp _ _
          · have t2 : decide (0 < (b' : Int)) = true := decide_eq_true (by omega)
            obtain ⟨b2, rfl⟩ : ∃ b2, b' = b2 + 1 := ⟨b' - 1, by omega⟩
            have b6 : ∀ o : O, (s5.set bh o)[bh]? = some o := fun o => set_get b5
            have a6 : ∀ o : O, (s5.set bh o)[st.length]? = some (.lst (Rw.ds acc)) := fun o => get_set a5 neb2.symm
            simp! [t6, t7, t8, t2, a5, b5, a6]
            have lb : ((b2 + 1 : Nat) : Int) - 1 = (b2 : Int) := by omega
            simp only [lb]
            exact fin (.coin g) b2 _ _ _ _ _ _ _ _ (fun _ _ _ => ⟨hg, rfl⟩) (by show 1 ≤ _; omega) rfl (b6 _) (ct.setB neb)
        · have t2 : decide ((loops : Int) = 0) = false := decide_eq_false (by omega)
          simp! [t6, t7, t8, t2, a5, b5]
          exact kp _ _
      · have t8 : decide (v = 8) = false := decide_eq_false z8
        simp! [t6, t7, t8, a5]
        exact kp _ _
  · subst e10
    cases m' with
    | succ m' => rw [rg_succ] at e2; cases e2
    | zero =>
      simp! [e7]
      refine hq acc b' s (fun e dp hdp => ⟨fun _ => by omega, fun r hr => e4 r hr e dp hdp⟩) ?_ e6 e8 e9
      have : i * (1 + 2 * bi) ≤ 3 * (1 + 2 * bi) := Nat.mul_le_mul_right _ (by omega)
      omega
theorem lawrows {many : Nat} (h1 : 1 ≤ many) (h6 : many ≤ 6) : ∀ (d k : Nat), RowsSpec many T (k + d + 5) d
  | 0, k => lawrows1 h1 h6 fun d' e => by cases e
  | d + 1, k => lawrows1 h1 h6 fun d' e => by
    cases e
    exact lawrows h1 h6 d k
end Y.K_k12
set_option linter.all false
set_option maxHeartbeats 1600000
set_option maxRecDepth 100000
namespace Y.K_k12
open Y PySem
local macro_rules
  | `(tactic| simp! [$ls,*]) => `(tactic| simp (implicitDefEqProofs := false) (dsimp := false) (failIfUnchanged := false) only [lz1, z_ifT, z_ifF, k_c0, k_c1, k_c2, k_c3, k_c4, k_c5, k_c6, k_few0, k_fewS, k_lkm, k_pf0, k_pfh, k_pfm, k_cls, k_clsO, ks_nx, ks_rt, ks_bk, ks_ct, ks_xc, kl_nx, kl_rt, kl_bk, kl_ct, kl_xc, kc_nx, kc_rt, kc_xc, kt_nx, kt_rt, kt_bk, kt_ct, kt_xc, kh_nx, kh_rt, un_n, un_s, isNon_1, isNon_2, isNon_3, isNon_4, isNon_5, isNon_6, isNon_7, boolQ_1, intQ_1, optQ_1, lstQ_1, sqQ_1, sqQ_2, cntQ_1, cntQ_2, cntQ_3, dicQ_1, insQ_1, getIx_0, getIx_1, getIx_2, getIx_3, getIx_4, getIx_5, ixrQ_1, ixrQ_2, ixrQ_3, ixrQ_4, setIx_0, setIx_1, setIx_2, bindQ_nm, bindL_0, bindL_1, bindQ_tp, z_var, z_con, z_glo, z_bin, z_neg, z_cmp, z_chain, z_isN, z_notN, z_and, z_or, z_not, z_ife, z_call, z_make, methQ_1, z_meth, z_fld, z_pr, z_me, z_isi, z_idx, z_sli, z_abs0, z_tup, z_lst, z_dic, z_dcomp, z_fstr, z_efld, z_eisi, z_comp, z_Tcmp, z_Tchain, z_TisN, z_TnotN, z_Tand, z_Tor, z_Tnot, z_Ttv, z_nil, z_cons, z_Fnil, z_Fcons, z_Tsn, z_Ts1, z_rng1, int2Q_1, z_rng2, z_enm, z_zip, z_sq, z_Bnil, z_Bcons, z_asg, z_asgt, z_asg2, z_setf, z_seti, augQ_1, augQ_2, z_augn, z_augf, z_exp, z_ret, z_retN, z_if, z_for, z_whl, z_brk, z_cnt, z_pas, z_rais0, z_rais1, z_try, z_Hnil, z_Hcons, v_v0, v_vs, v_add, v_sub, v_mul, v_fdiv, v_mod, v_pow, v_sadd, v_tadd, v_ladd, v_lmul, v_int, v_intb, v_abs, v_max2, v_min2, v_stri, v_lens, v_lenm, v_len0, v_len1, v_len2, v_len3, v_len4, v_len5, v_len6, v_lenr, v_tupt, v_tupr, v_lstt, v_lstr, v_any, v_all, v_ixt, v_ixr, v_kon, v_seti, strQ_1, strQ_2, strQ_3, v_pts, v_ptn, v_sls, v_slt, v_slr, v_fld, v_setf, v_okl, v_oks, v_app, v_pop, v_lt, v_le, v_gt, v_ge, v_eq, v_ne, v_in, v_ni, v_eqii, v_eqss, v_eqbb, v_eqsi, v_eqis, v_eqni, v_eqin, v_eqns, v_eqsn, v_trn, v_trb, v_tri, v_trt, v_trr, v_trs, v_fms, v_fmi, v_inp, inrQ_1, inrQ_2, inrQ_3, v_inl, v_inK, v_ins, t_n, t_b, t_i, t_s, t_t, t_r, tyO_1, tyO_2, tyO_3, tyO_4, y_n, y_b, y_i, y_s, y_t, y_l, y_d, y_o, y_o1, y_o2, y_o3, y_o4, y_o5, y_o6, w_t, w_s, w_r, w_e, w_zs, w_zt, List.map_cons, List.map_nil, List.replicate_succ, List.replicate_zero, List.cons_append, List.nil_append, List.append_nil, List.set_cons_zero, List.set_cons_succ, List.any_cons, List.any_nil, List.lookup_cons_self, meT, reduceCtorEq, decide_true, decide_false, Bool.or_false, Bool.false_or, Bool.or_true, Bool.true_or, Bool.not_true, Bool.not_false, Bool.and_true, Bool.true_and, Bool.and_false, Bool.false_and, true_and, and_true, wipeE, Option.isSome_some, Option.isSome_none, List.getElem?_concat_length, Nat.reduceBEq, Int.reduceEq, Int.reduceLT, Int.reduceLE, Int.reduceNeg, glo_0, glo_1, glo_2, glo_3, glo_4, glo_5, glo_6, glo_7, glo_8, konn_0, konq_0_0, konq_0_1, konq_0_2, konq_0_3, konq_0_4, konq_0_5, konq_0_6, konq_0_7, alt_0, alt_1, alt_2, alt_3, alt_4, alt_5, alt_6, alt_7, alt_8, exf_0, exf_1, exf_2, exf_3, exf_4, exf_5, c_PastError, c_NoName, c_NoState, c_HasCoins, c_NoVault, c_NoRow, c_Body, c_Walk, c_Vault, d_size_row, d_choice_table, d_coined, d_used, d_trace, d_cells, d_result, d_begin, d_deed_row, d_coin_count, d_row_count, d_many_cells, d_body_table, d_coins, d_held, d_cell_row, d_part, d_index, $ls,*])
local macro_rules
  | `(tactic| simp!) => `(tactic| simp (implicitDefEqProofs := false) (dsimp := false) (failIfUnchanged := false) only [lz1, z_ifT, z_ifF, k_c0, k_c1, k_c2, k_c3, k_c4, k_c5, k_c6, k_few0, k_fewS, k_lkm, k_pf0, k_pfh, k_pfm, k_cls, k_clsO, ks_nx, ks_rt, ks_bk, ks_ct, ks_xc, kl_nx, kl_rt, kl_bk, kl_ct, kl_xc, kc_nx, kc_rt, kc_xc, kt_nx, kt_rt, kt_bk, kt_ct, kt_xc, kh_nx, kh_rt, un_n, un_s, isNon_1, isNon_2, isNon_3, isNon_4, isNon_5, isNon_6, isNon_7, boolQ_1, intQ_1, optQ_1, lstQ_1, sqQ_1, sqQ_2, cntQ_1, cntQ_2, cntQ_3, dicQ_1, insQ_1, getIx_0, getIx_1, getIx_2, getIx_3, getIx_4, getIx_5, ixrQ_1, ixrQ_2, ixrQ_3, ixrQ_4, setIx_0, setIx_1, setIx_2, bindQ_nm, bindL_0, bindL_1, bindQ_tp, z_var, z_con, z_glo, z_bin, z_neg, z_cmp, z_chain, z_isN, z_notN, z_and, z_or, z_not, z_ife, z_call, z_make, methQ_1, z_meth, z_fld, z_pr, z_me, z_isi, z_idx, z_sli, z_abs0, z_tup, z_lst, z_dic, z_dcomp, z_fstr, z_efld, z_eisi, z_comp, z_Tcmp, z_Tchain, z_TisN, z_TnotN, z_Tand, z_Tor, z_Tnot, z_Ttv, z_nil, z_cons, z_Fnil, z_Fcons, z_Tsn, z_Ts1, z_rng1, int2Q_1, z_rng2, z_enm, z_zip, z_sq, z_Bnil, z_Bcons, z_asg, z_asgt, z_asg2, z_setf, z_seti, augQ_1, augQ_2, z_augn, z_augf, z_exp, z_ret, z_retN, z_if, z_for, z_whl, z_brk, z_cnt, z_pas, z_rais0, z_rais1, z_try, z_Hnil, z_Hcons, v_v0, v_vs, v_add, v_sub, v_mul, v_fdiv, v_mod, v_pow, v_sadd, v_tadd, v_ladd, v_lmul, v_int, v_intb, v_abs, v_max2, v_min2, v_stri, v_lens, v_lenm, v_len0, v_len1, v_len2, v_len3, v_len4, v_len5, v_len6, v_lenr, v_tupt, v_tupr, v_lstt, v_lstr, v_any, v_all, v_ixt, v_ixr, v_kon, v_seti, strQ_1, strQ_2, strQ_3, v_pts, v_ptn, v_sls, v_slt, v_slr, v_fld, v_setf, v_okl, v_oks, v_app, v_pop, v_lt, v_le, v_gt, v_ge, v_eq, v_ne, v_in, v_ni, v_eqii, v_eqss, v_eqbb, v_eqsi, v_eqis, v_eqni, v_eqin, v_eqns, v_eqsn, v_trn, v_trb, v_tri, v_trt, v_trr, v_trs, v_fms, v_fmi, v_inp, inrQ_1, inrQ_2, inrQ_3, v_inl, v_inK, v_ins, t_n, t_b, t_i, t_s, t_t, t_r, tyO_1, tyO_2, tyO_3, tyO_4, y_n, y_b, y_i, y_s, y_t, y_l, y_d, y_o, y_o1, y_o2, y_o3, y_o4, y_o5, y_o6, w_t, w_s, w_r, w_e, w_zs, w_zt, List.map_cons, List.map_nil, List.replicate_succ, List.replicate_zero, List.cons_append, List.nil_append, List.append_nil, List.set_cons_zero, List.set_cons_succ, List.any_cons, List.any_nil, List.lookup_cons_self, meT, reduceCtorEq, decide_true, decide_false, Bool.or_false, Bool.false_or, Bool.or_true, Bool.true_or, Bool.not_true, Bool.not_false, Bool.and_true, Bool.true_and, Bool.and_false, Bool.false_and, true_and, and_true, wipeE, Option.isSome_some, Option.isSome_none, List.getElem?_concat_length, Nat.reduceBEq, Int.reduceEq, Int.reduceLT, Int.reduceLE, Int.reduceNeg, glo_0, glo_1, glo_2, glo_3, glo_4, glo_5, glo_6, glo_7, glo_8, konn_0, konq_0_0, konq_0_1, konq_0_2, konq_0_3, konq_0_4, konq_0_5, konq_0_6, konq_0_7, alt_0, alt_1, alt_2, alt_3, alt_4, alt_5, alt_6, alt_7, alt_8, exf_0, exf_1, exf_2, exf_3, exf_4, exf_5, c_PastError, c_NoName, c_NoState, c_HasCoins, c_NoVault, c_NoRow, c_Body, c_Walk, c_Vault, d_size_row, d_choice_table, d_coined, d_used, d_trace, d_cells, d_result, d_begin, d_deed_row, d_coin_count, d_row_count, d_many_cells, d_body_table, d_coins, d_held, d_cell_row, d_part, d_index])
structure BodyP (many coins : Nat) (rows : List Rw) : Prop where
  ok : rowsOk 12 many 1 0 rows
  size : Rw.sizes rows ≤ 200
  coins : Rw.coinss rows ≤ coins
theorem lawbody {k h many coins : Nat} {st : Store} {Q : QE} {X : QX} (h1 : 1 ≤ many) (h6 : many ≤ 6) (P : Pool h st) (hq : ∀ (rows : List Rw) (s : Store), BodyP many coins rows → Ch h st s → Q (.tup (Rw.ds rows)) s) : Call T (k + 8) n__law_body [.ref h, .int many, .int coins] st Q X := by
  refine call_z f__law_body.fn rfl rfl ?_
  show wpB T (Call T (k + 7)) none b__law_body [some (.ref h), some (.int many), some (.int coins), none, none, none, none, none] st _
  unfold b__law_body
  simp!
  refine draw (by decide) (by decide) P fun v s2 v0 v1 _ c2 => ?_
  simp!
  refine draw (by omega) (by omega) c2.pool fun cc s3 cc0 cc1 _ c3 => ?_
  simp!
  refine draw (by omega) (by omega) c3.pool fun dd s4 dd0 dd1 _ c4 => ?_
  simp!
  refine drawE 1 (k := k + 4) rfl c4.pool fun e s5 he c5 => ?_
  have c := ((c2.trans c3).trans c4).trans c5
  obtain ⟨ci, rfl⟩ : ∃ a : Nat, cc = a := ⟨cc.toNat, by omega⟩
  obtain ⟨di, rfl⟩ : ∃ a : Nat, dd = a := ⟨dd.toNat, by omega⟩
  have hc : ci < many := by omega
  have hd : di < many := by omega
  have he5 : e.ok 5 := Ex.ok_mono (by decide) he
  have he6 : e.ok 6 := Ex.ok_mono (by decide) he
  have ra : 97 ∈ regs := by decide
  have rb : 98 ∈ regs := by decide
  have rx : 120 ∈ regs := by decide
  have ka : 97 ∈ keepers := by decide
  have kb : 98 ∈ keepers := by decide
  have sp : 43 ∈ signs := by decide
  have sq : 61 ∈ signs := by decide
  clear c2 c3 c4 c5 cc0 cc1 dd0 dd1 he
  simp!
  refine ifd (fun z => ?_) (fun z => ?_)
  · simp!
    exact hq [.set ci (.reg 120)] s5 ⟨by simp [rowsOk, Ex.ok, hc, rx], by simp [Rw.sizes, Rw.size], by simp [Rw.coinss, Rw.coins]⟩ c
  simp!
  refine ifd (fun z => ?_) (fun z => ?_)
  · simp!
    exact hq [.read 97 ci, .ans (.reg 97)] s5 ⟨by simp [rowsOk, Ex.ok, hc, ra, ka], by simp [Rw.sizes, Rw.size], by simp [Rw.coinss, Rw.coins]⟩ c
  simp!
  refine ifd (fun z => ?_) (fun z => ?_)
  · simp!
    exact hq [.read 97 ci, .set ci (.op 43 (.reg 97) e), .ans (.reg 97)] s5 ⟨by simp [rowsOk, Ex.ok, hc, ra, ka, sp, he5], by simp [Rw.sizes, Rw.size], by simp [Rw.coinss, Rw.coins]⟩ c
  simp!
  refine ifd (fun z => ?_) (fun z => ?_)
  · simp!
    exact hq [.read 97 ci, .set di (.reg 97), .set ci (.reg 120)] s5 ⟨by simp [rowsOk, Ex.ok, hc, hd, ra, ka, rx], by simp [Rw.sizes, Rw.size], by simp [Rw.coinss, Rw.coins]⟩ c
  simp!
  refine ifd (fun z => ?_) (fun z => ?_)
  · simp!
    exact hq [.set ci e] s5 ⟨by simp [rowsOk, hc, he6], by simp [Rw.sizes, Rw.size], by simp [Rw.coinss, Rw.coins]⟩ c
  simp!
  refine ifd (fun z => ?_) (fun z => ?_)
  · simp!
    exact hq [.swap 98 ci e (.reg 120), .ans (.reg 98)] s5 ⟨by simp [rowsOk, Ex.ok, hc, he6, rb, kb, rx], by simp [Rw.sizes, Rw.size], by simp [Rw.coinss, Rw.coins]⟩ c
  simp!
  refine ifd (fun z => ?_) (fun z => ?_)
  · simp!
    exact hq [.read 97 ci, .read 98 di, .ife (.op 61 (.reg 97) (.reg 98)) [.ans e] [.set ci (.reg 98)]] s5 ⟨by simp [rowsOk, Ex.ok, hc, hd, he6, ra, rb, ka, kb, sq], by simp [Rw.sizes, Rw.size], by simp [Rw.coinss, Rw.coins]⟩ c
  simp!
  refine ifd (fun z => ?_) (fun z => ?_)
  · simp!
    exact hq [.read 97 ci, .read 98 di, .set ci (.reg 98), .set di (.reg 97)] s5 ⟨by simp [rowsOk, Ex.ok, hc, hd, ra, rb, ka, kb], by simp [Rw.sizes, Rw.size], by simp [Rw.coinss, Rw.coins]⟩ c
  have free : ∀ (Q' : QE) (X' : QX), (∀ (rows : List Rw) (s : Store), BodyP many coins rows → Ch h st s → Q' (.tup (Rw.ds rows)) s) → Call T (k + 7) n__law_rows [.ref h, .int many, .int 2, .int 0, .ref s5.length] (s5 ++ [.lst [.int coins]]) Q' X' := fun Q' X' hq' => by
    have nb : s5.length ≠ h := Nat.ne_of_gt c.pool.lt
    refine lawrows h1 h6 2 k h s5.length 0 2 coins _ Q' X' rfl (by decide) c.pool.app nb (get_snoc _ _) fun rows b' s rp rs rc _ c2 => ?_
    refine hq' rows s ⟨rp 9 1 (by decide), Nat.le_trans rs (by decide), by omega⟩ ⟨c2.pool, ?_, fun g n l => ?_⟩
    · have := c.len
      have := c2.len
      rw [List.length_append] at this
      omega
    · have := c.len
      rw [c2.same g n (by omega) (by rw [List.length_append]; omega), List.getElem?_append_left (by omega)]
      exact c.same g n l
  by_cases zc : coins = 0
  · have t1 : decide (0 < (coins : Int)) = false := decide_eq_false (by omega)
    simp! [t1]
    by_cases z8 : v = 8
    · have t8 : decide (v = 8) = true := decide_eq_true z8
      have t9 : decide (v = 9) = false := decide_eq_false (by omega)
      simp! [t1, t8, t9]
      refine free _ _ fun rows s bp cs => ?_
      simp!
      exact hq rows s bp cs
    · have t8 : decide (v = 8) = false := decide_eq_false z8
      by_cases z9 : v = 9
      · have t9 : decide (v = 9) = true := decide_eq_true z9
        simp! [t1, t8, t9]
        refine free _ _ fun rows s bp cs => ?_
        simp!
        exact hq rows s bp cs
      · have t9 : decide (v = 9) = false := decide_eq_false z9
        simp! [t1, t8, t9]
        refine free _ _ fun rows s bp cs => ?_
        simp!
        exact hq rows s bp cs
  · have t1 : decide (0 < (coins : Int)) = true := decide_eq_true (by omega)
    by_cases z8 : v = 8
    · have t8 : decide (v = 8) = true := decide_eq_true z8
      simp! [t1, t8]
      exact hq [.read 97 ci, .ife (.reg 97) [.ans (.num 0)] [], .coin 98, .set ci (.op 43 (.reg 98) (.num 1)), .ans (.num 1)] s5 ⟨by simp [rowsOk, Ex.ok, hc, ra, rb, ka, kb, sp], by simp [Rw.sizes, Rw.size], by simp [Rw.coinss, Rw.coins]; omega⟩ c
    · have t8 : decide (v = 8) = false := decide_eq_false z8
      by_cases z9 : v = 9
      · have t9 : decide (v = 9) = true := decide_eq_true z9
        simp! [t1, t8, t9]
        exact hq [.coin 98, .set ci (.op 43 (.reg 98) (.reg 120))] s5 ⟨by simp [rowsOk, Ex.ok, hc, rb, kb, rx, sp], by simp [Rw.sizes, Rw.size], by simp [Rw.coinss, Rw.coins]; omega⟩ c
      · have t9 : decide (v = 9) = false := decide_eq_false z9
        simp! [t1, t8, t9]
        refine free _ _ fun rows s bp cs => ?_
        simp!
        exact hq rows s bp cs
end Y.K_k12
set_option linter.all false
set_option maxHeartbeats 1600000
set_option maxRecDepth 100000
namespace Y.K_k12
open Y PySem
local macro_rules
  | `(tactic| simp! [$ls,*]) => `(tactic| simp (implicitDefEqProofs := false) (dsimp := false) (failIfUnchanged := false) only [lz1, z_ifT, z_ifF, k_c0, k_c1, k_c2, k_c3, k_c4, k_c5, k_c6, k_few0, k_fewS, k_lkm, k_pf0, k_pfh, k_pfm, k_cls, k_clsO, ks_nx, ks_rt, ks_bk, ks_ct, ks_xc, kl_nx, kl_rt, kl_bk, kl_ct, kl_xc, kc_nx, kc_rt, kc_xc, kt_nx, kt_rt, kt_bk, kt_ct, kt_xc, kh_nx, kh_rt, un_n, un_s, isNon_1, isNon_2, isNon_3, isNon_4, isNon_5, isNon_6, isNon_7, boolQ_1, intQ_1, optQ_1, lstQ_1, sqQ_1, sqQ_2, cntQ_1, cntQ_2, cntQ_3, dicQ_1, insQ_1, getIx_0, getIx_1, getIx_2, getIx_3, getIx_4, getIx_5, ixrQ_1, ixrQ_2, ixrQ_3, ixrQ_4, setIx_0, setIx_1, setIx_2, bindQ_nm, bindL_0, bindL_1, bindQ_tp, z_var, z_con, z_glo, z_bin, z_neg, z_cmp, z_chain, z_isN, z_notN, z_and, z_or, z_not, z_ife, z_call, z_make, methQ_1, z_meth, z_fld, z_pr, z_me, z_isi, z_idx, z_sli, z_abs0, z_tup, z_lst, z_dic, z_dcomp, z_fstr, z_efld, z_eisi, z_comp, z_Tcmp, z_Tchain, z_TisN, z_TnotN, z_Tand, z_Tor, z_Tnot, z_Ttv, z_nil, z_cons, z_Fnil, z_Fcons, z_Tsn, z_Ts1, z_rng1, int2Q_1, z_rng2, z_enm, z_zip, z_sq, z_Bnil, z_Bcons, z_asg, z_asgt, z_asg2, z_setf, z_seti, augQ_1, augQ_2, z_augn, z_augf, z_exp, z_ret, z_retN, z_if, z_for, z_whl, z_brk, z_cnt, z_pas, z_rais0, z_rais1, z_try, z_Hnil, z_Hcons, v_v0, v_vs, v_add, v_sub, v_mul, v_fdiv, v_mod, v_pow, v_sadd, v_tadd, v_ladd, v_lmul, v_int, v_intb, v_abs, v_max2, v_min2, v_stri, v_lens, v_lenm, v_len0, v_len1, v_len2, v_len3, v_len4, v_len5, v_len6, v_lenr, v_tupt, v_tupr, v_lstt, v_lstr, v_any, v_all, v_ixt, v_ixr, v_kon, v_seti, strQ_1, strQ_2, strQ_3, v_pts, v_ptn, v_sls, v_slt, v_slr, v_fld, v_setf, v_okl, v_oks, v_app, v_pop, v_lt, v_le, v_gt, v_ge, v_eq, v_ne, v_in, v_ni, v_eqii, v_eqss, v_eqbb, v_eqsi, v_eqis, v_eqni, v_eqin, v_eqns, v_eqsn, v_trn, v_trb, v_tri, v_trt, v_trr, v_trs, v_fms, v_fmi, v_inp, inrQ_1, inrQ_2, inrQ_3, v_inl, v_inK, v_ins, t_n, t_b, t_i, t_s, t_t, t_r, tyO_1, tyO_2, tyO_3, tyO_4, y_n, y_b, y_i, y_s, y_t, y_l, y_d, y_o, y_o1, y_o2, y_o3, y_o4, y_o5, y_o6, w_t, w_s, w_r, w_e, w_zs, w_zt, List.map_cons, List.map_nil, List.replicate_succ, List.replicate_zero, List.cons_append, List.nil_append, List.append_nil, List.set_cons_zero, List.set_cons_succ, List.any_cons, List.any_nil, List.lookup_cons_self, meT, reduceCtorEq, decide_true, decide_false, Bool.or_false, Bool.false_or, Bool.or_true, Bool.true_or, Bool.not_true, Bool.not_false, Bool.and_true, Bool.true_and, Bool.and_false, Bool.false_and, true_and, and_true, wipeE, Option.isSome_some, Option.isSome_none, List.getElem?_concat_length, Nat.reduceBEq, Int.reduceEq, Int.reduceLT, Int.reduceLE, Int.reduceNeg, glo_0, glo_1, glo_2, glo_3, glo_4, glo_5, glo_6, glo_7, glo_8, konn_0, konq_0_0, konq_0_1, konq_0_2, konq_0_3, konq_0_4, konq_0_5, konq_0_6, konq_0_7, alt_0, alt_1, alt_2, alt_3, alt_4, alt_5, alt_6, alt_7, alt_8, exf_0, exf_1, exf_2, exf_3, exf_4, exf_5, c_PastError, c_NoName, c_NoState, c_HasCoins, c_NoVault, c_NoRow, c_Body, c_Walk, c_Vault, d_size_row, d_choice_table, d_coined, d_used, d_trace, d_cells, d_result, d_begin, d_deed_row, d_coin_count, d_row_count, d_many_cells, d_body_table, d_coins, d_held, d_cell_row, d_part, d_index, $ls,*])
local macro_rules
  | `(tactic| simp!) => `(tactic| simp (implicitDefEqProofs := false) (dsimp := false) (failIfUnchanged := false) only [lz1, z_ifT, z_ifF, k_c0, k_c1, k_c2, k_c3, k_c4, k_c5, k_c6, k_few0, k_fewS, k_lkm, k_pf0, k_pfh, k_pfm, k_cls, k_clsO, ks_nx, ks_rt, ks_bk, ks_ct, ks_xc, kl_nx, kl_rt, kl_bk, kl_ct, kl_xc, kc_nx, kc_rt, kc_xc, kt_nx, kt_rt, kt_bk, kt_ct, kt_xc, kh_nx, kh_rt, un_n, un_s, isNon_1, isNon_2, isNon_3, isNon_4, isNon_5, isNon_6, isNon_7, boolQ_1, intQ_1, optQ_1, lstQ_1, sqQ_1, sqQ_2, cntQ_1, cntQ_2, cntQ_3, dicQ_1, insQ_1, getIx_0, getIx_1, getIx_2, getIx_3, getIx_4, getIx_5, ixrQ_1, ixrQ_2, ixrQ_3, ixrQ_4, setIx_0, setIx_1, setIx_2, bindQ_nm, bindL_0, bindL_1, bindQ_tp, z_var, z_con, z_glo, z_bin, z_neg, z_cmp, z_chain, z_isN, z_notN, z_and, z_or, z_not, z_ife, z_call, z_make, methQ_1, z_meth, z_fld, z_pr, z_me, z_isi, z_idx, z_sli, z_abs0, z_tup, z_lst, z_dic, z_dcomp, z_fstr, z_efld, z_eisi, z_comp, z_Tcmp, z_Tchain, z_TisN, z_TnotN, z_Tand, z_Tor, z_Tnot, z_Ttv, z_nil, z_cons, z_Fnil, z_Fcons, z_Tsn, z_Ts1, z_rng1, int2Q_1, z_rng2, z_enm, z_zip, z_sq, z_Bnil, z_Bcons, z_asg, z_asgt, z_asg2, z_setf, z_seti, augQ_1, augQ_2, z_augn, z_augf, z_exp, z_ret, z_retN, z_if, z_for, z_whl, z_brk, z_cnt, z_pas, z_rais0, z_rais1, z_try, z_Hnil, z_Hcons, v_v0, v_vs, v_add, v_sub, v_mul, v_fdiv, v_mod, v_pow, v_sadd, v_tadd, v_ladd, v_lmul, v_int, v_intb, v_abs, v_max2, v_min2, v_stri, v_lens, v_lenm, v_len0, v_len1, v_len2, v_len3, v_len4, v_len5, v_len6, v_lenr, v_tupt, v_tupr, v_lstt, v_lstr, v_any, v_all, v_ixt, v_ixr, v_kon, v_seti, strQ_1, strQ_2, strQ_3, v_pts, v_ptn, v_sls, v_slt, v_slr, v_fld, v_setf, v_okl, v_oks, v_app, v_pop, v_lt, v_le, v_gt, v_ge, v_eq, v_ne, v_in, v_ni, v_eqii, v_eqss, v_eqbb, v_eqsi, v_eqis, v_eqni, v_eqin, v_eqns, v_eqsn, v_trn, v_trb, v_tri, v_trt, v_trr, v_trs, v_fms, v_fmi, v_inp, inrQ_1, inrQ_2, inrQ_3, v_inl, v_inK, v_ins, t_n, t_b, t_i, t_s, t_t, t_r, tyO_1, tyO_2, tyO_3, tyO_4, y_n, y_b, y_i, y_s, y_t, y_l, y_d, y_o, y_o1, y_o2, y_o3, y_o4, y_o5, y_o6, w_t, w_s, w_r, w_e, w_zs, w_zt, List.map_cons, List.map_nil, List.replicate_succ, List.replicate_zero, List.cons_append, List.nil_append, List.append_nil, List.set_cons_zero, List.set_cons_succ, List.any_cons, List.any_nil, List.lookup_cons_self, meT, reduceCtorEq, decide_true, decide_false, Bool.or_false, Bool.false_or, Bool.or_true, Bool.true_or, Bool.not_true, Bool.not_false, Bool.and_true, Bool.true_and, Bool.and_false, Bool.false_and, true_and, and_true, wipeE, Option.isSome_some, Option.isSome_none, List.getElem?_concat_length, Nat.reduceBEq, Int.reduceEq, Int.reduceLT, Int.reduceLE, Int.reduceNeg, glo_0, glo_1, glo_2, glo_3, glo_4, glo_5, glo_6, glo_7, glo_8, konn_0, konq_0_0, konq_0_1, konq_0_2, konq_0_3, konq_0_4, konq_0_5, konq_0_6, konq_0_7, alt_0, alt_1, alt_2, alt_3, alt_4, alt_5, alt_6, alt_7, alt_8, exf_0, exf_1, exf_2, exf_3, exf_4, exf_5, c_PastError, c_NoName, c_NoState, c_HasCoins, c_NoVault, c_NoRow, c_Body, c_Walk, c_Vault, d_size_row, d_choice_table, d_coined, d_used, d_trace, d_cells, d_result, d_begin, d_deed_row, d_coin_count, d_row_count, d_many_cells, d_body_table, d_coins, d_held, d_cell_row, d_part, d_index])
theorem letters {ds : List D} (hl : ds.length ≤ 2) (h : ∀ d ∈ ds, ∃ c, d = .str [c] ∧ c ∈ az) : ∃ (ys : List (List Nat)) (p : List Nat), ds = ys.map D.str ∧ TL.joinL [] ys = p ∧ p.length ≤ 2 ∧ (∀ c ∈ p, c ∈ az) ∧ (ys.map List.length).sum + ys.length * 0 ≤ 16777216 := by
  match ds, hl with
  | [], _ => exact ⟨[], [], rfl, rfl, by decide, (fun c m => by cases m), by decide⟩
  | [a], _ =>
    obtain ⟨c, rfl, hc⟩ := h a (by simp)
    exact ⟨[[c]], [c], rfl, rfl, by show 1 ≤ 2; decide, (fun x m => by rw [List.mem_singleton.mp m]; exact hc), by show 1 + 0 ≤ _; decide⟩
  | [a, b], _ =>
    obtain ⟨c, rfl, hc⟩ := h a (by simp)
    obtain ⟨d, rfl, hd⟩ := h b (by simp)
    refine ⟨[[c], [d]], [c, d], rfl, rfl, by show 2 ≤ 2; decide, fun x m => ?_, by show 2 + 0 ≤ _; decide⟩
    rcases List.mem_cons.mp m with z | z
    · rw [z]; exact hc
    · rw [List.mem_singleton.mp z]; exact hd
def lastR (x : List Nat) : Nat := (x.getLast?.getD 97 - 97) % 4
theorem lastR_snoc (p : List Nat) (c : Nat) : lastR (p ++ [c]) = (c - 97) % 4 := by
  unfold lastR
  rw [List.getLast?_concat]
  rfl
structure DeedP (many coins : Nat) (x : Dd) : Prop where
  nm : IsName x.nm
  lo : 1 ≤ x.ch
  hi : x.ch ≤ 3
  body : BodyP many coins x.rows
theorem azAt : ∀ j : Nat, j < 26 → az[j]? = some (97 + j) := by decide
theorem lawdeeds {k h many coins : Nat} {st : Store} {Q : QE} {X : QX} (h1 : 1 ≤ many) (h6 : many ≤ 6) (P : Pool h st) (hq : ∀ (xs : List Dd) (s : Store), 1 ≤ xs.length → xs.length ≤ 4 → (∀ x ∈ xs, DeedP many coins x) → (xs.map (·.nm)).Nodup → s[st.length]? = some (.lst (xs.map Dd.d)) → Ch h st s → Q (.ref st.length) s) : Call T (k + 9) n__law_deeds [.ref h, .int many, .int coins] st Q X := by
  refine call_z f__law_deeds.fn rfl rfl ?_
  show wpB T (Call T (k + 8)) none b__law_deeds [some (.ref h), some (.int many), some (.int coins), none, none, none, none, none, none] st _
  unfold b__law_deeds
  have c0 : Ch h st (st ++ [.lst []]) := (Ch.refl P).app
  have ne : st.length ≠ h := Nat.ne_of_gt P.lt
  simp!
  refine draw (by decide) (by decide) c0.pool fun v s1 v0 v1 l1 c1 => ?_
  have g1 := c1.get (get_snoc st (.lst [])) ne
  simp!
  refine ⟨by omega, by omega, ?_⟩
  have nb : 1 ≤ (1 + v).toNat ∧ (1 + v).toNat ≤ 4 := by omega
  generalize (1 + v).toNat = n at nb ⊢
  rw [rngD_rg]
  refine for_s (fun r env s => ∃ (i m : Nat) (xs : List Dd) (q5 q6 q7 q8 : Option D), i + m = n ∧ r = rg i m ∧ xs.length = i ∧ (∀ x ∈ xs, DeedP many coins x) ∧ (xs.map (·.nm)).Nodup ∧ (∀ x ∈ xs, ∃ j, j < i ∧ lastR x.nm = (3 * j + 1) % 4) ∧ s[st.length]? = some (.lst (xs.map Dd.d)) ∧ Ch h st s ∧ env = [some (.ref h), some (.int many), some (.int coins), some (.str az), some (.ref st.length), q5, q6, q7, q8]) ⟨0, n, [], none, none, none, none, by omega, rfl, rfl, (fun c m => by cases m), List.nodup_nil, (fun c m => by cases m), g1, c0.trans c1, rfl⟩ (fun d r env s N ⟨i, m, xs, q5, q6, q7, q8, e1, e2, e3, e4, e5, e6, e7, e8, e9⟩ hN => ?_) (fun env s ⟨i, m, xs, q5, q6, q7, q8, e1, e2, e3, e4, e5, e6, e7, e8, e9⟩ => ?_)
  · subst e9
    cases m with
    | zero => cases e2
    | succ m =>
      rw [rg_succ] at e2
      cases e2
      simp!
      refine draw (by decide) (by decide) e8.pool fun u s2 u0 u1 _ c2 => ?_
      simp!
      refine ⟨by omega, by omega, ?_⟩
      refine gen (fun d => ∃ c, d = .str [c] ∧ c ∈ az) (by omega) c2.pool (fun e s P h => ?_) (fun e i' s Q' _ he ps hQ => ?_) (fun es s3 el em eg c3 => ?_)
      · simp!
        exact h
      · subst he
        simp!
        refine draw (by decide) (by decide) ps.pool fun w s4 w0 w1 _ c4 => ?_
        simp!
        refine sign_of w0 (by show w < 26; omega) (by decide) fun c hc => ?_
        exact hQ _ _ ⟨c, rfl, hc⟩ c4
      obtain ⟨ys, p, rfl, ep, pl, pz, pb⟩ := letters (by omega) em
      have c23 := c2.trans c3
      have e7' := c23.get e7 ne
      simp!
      refine go_join (ys := ys) (seq_l eg) pb ?_
      rw [ep]
      simp!
      refine draw (by decide) (by decide) c3.pool fun w s4 w0 w1 _ c4 => ?_
      have e74 := c4.get e7' ne
      simp!
      refine ⟨.inl ⟨by decide, by decide⟩, .inl ⟨by decide, by decide⟩, ?_⟩
      have j0 : 0 ≤ 4 * w + (3 * (i : Int) + 1) % 4 := by omega
      have j26 : 4 * w + (3 * (i : Int) + 1) % 4 < 26 := by omega
      have jr : (4 * w + (3 * (i : Int) + 1) % 4).toNat % 4 = (3 * i + 1) % 4 := by omega
      generalize 4 * w + (3 * (i : Int) + 1) % 4 = j at j0 j26 jr ⊢
      refine go_is (le_line (show 26 ≤ 1000000 by decide)) (ix_pos j0 (by show j < 26; omega)) (azAt j.toNat (by omega)) ?_
      have cz : 97 + j.toNat ∈ az := List.mem_of_getElem? (azAt j.toNat (by omega))
      have nm : IsName (p ++ [97 + j.toNat]) := ⟨by simp, by simp; omega, fun c hc => by
        rcases List.mem_append.mp hc with z | z
        · exact pz c z
        · rw [List.mem_singleton.mp z]; exact cz⟩
      have lr : lastR (p ++ [97 + j.toNat]) = (3 * i + 1) % 4 := by rw [lastR_snoc, ← jr]; omega
      simp!
      refine ⟨le_line (by show p.length + 1 ≤ _; omega), ?_⟩
      generalize p ++ [97 + j.toNat] = nmx at nm lr ⊢
      refine draw (by decide) (by decide) c4.pool fun y s5 y0 y1 _ c5 => ?_
      have e75 := c5.get e74 ne
      obtain ⟨ch, hch⟩ : ∃ a : Nat, 1 + y = a := ⟨(1 + y).toNat, by omega⟩
      simp! [e75]
      refine lawbody (k := k) h1 h6 c5.pool fun rows s6 bp c6 => ?_
      have e76 := c6.get e75 ne
      simp! [e76]
      refine ⟨lt_line (by rw [List.length_map]; omega), hN _ _ ⟨i + 1, m, xs ++ [⟨nmx, ch, rows⟩], _, _, _, _, by omega, rfl, by simp [e3], fun x hx => ?_, ?_, fun x hx => ?_, ?_, ((((e8.trans c23).trans c4).trans c5).trans c6).set ne (Nat.le_refl _), rfl⟩⟩
      · rcases List.mem_append.mp hx with z | z
        · exact e4 x z
        · rw [List.mem_singleton.mp z]
          exact ⟨nm, by show 1 ≤ ch; omega, by show ch ≤ 3; omega, bp⟩
      · rw [List.map_append, List.nodup_append]
        refine ⟨e5, List.nodup_cons.mpr ⟨List.not_mem_nil, List.nodup_nil⟩, fun a ha b hb => ?_⟩
        obtain ⟨x, hx, rfl⟩ := List.mem_map.mp ha
        rw [List.mem_singleton.mp hb]
        intro e
        obtain ⟨j', hj', lj⟩ := e6 x hx
        have e : x.nm = nmx := e
        rw [e, lr] at lj
        omega
      · rcases List.mem_append.mp hx with z | z
        · obtain ⟨j', hj', lj⟩ := e6 x z
          exact ⟨j', by omega, lj⟩
        · rw [List.mem_singleton.mp z]
          exact ⟨i, by omega, lr⟩
      · rw [set_get e76, List.map_append, hch]
        rfl
  · subst e9
    cases m with
    | succ m => rw [rg_succ] at e2; cases e2
    | zero =>
      simp!
      exact hq xs s (by omega) (by omega) e4 e5 e7 e8
end Y.K_k12
set_option linter.all false
set_option maxHeartbeats 1600000
set_option maxRecDepth 100000
namespace Y.K_k12
open Y PySem
local macro_rules
  | `(tactic| simp! [$ls,*]) => `(tactic| simp (implicitDefEqProofs := false) (dsimp := false) (failIfUnchanged := false) only [lz1, z_ifT, z_ifF, k_c0, k_c1, k_c2, k_c3, k_c4, k_c5, k_c6, k_few0, k_fewS, k_lkm, k_pf0, k_pfh, k_pfm, k_cls, k_clsO, ks_nx, ks_rt, ks_bk, ks_ct, ks_xc, kl_nx, kl_rt, kl_bk, kl_ct, kl_xc, kc_nx, kc_rt, kc_xc, kt_nx, kt_rt, kt_bk, kt_ct, kt_xc, kh_nx, kh_rt, un_n, un_s, isNon_1, isNon_2, isNon_3, isNon_4, isNon_5, isNon_6, isNon_7, boolQ_1, intQ_1, optQ_1, lstQ_1, sqQ_1, sqQ_2, cntQ_1, cntQ_2, cntQ_3, dicQ_1, insQ_1, getIx_0, getIx_1, getIx_2, getIx_3, getIx_4, getIx_5, ixrQ_1, ixrQ_2, ixrQ_3, ixrQ_4, setIx_0, setIx_1, setIx_2, bindQ_nm, bindL_0, bindL_1, bindQ_tp, z_var, z_con, z_glo, z_bin, z_neg, z_cmp, z_chain, z_isN, z_notN, z_and, z_or, z_not, z_ife, z_call, z_make, methQ_1, z_meth, z_fld, z_pr, z_me, z_isi, z_idx, z_sli, z_abs0, z_tup, z_lst, z_dic, z_dcomp, z_fstr, z_efld, z_eisi, z_comp, z_Tcmp, z_Tchain, z_TisN, z_TnotN, z_Tand, z_Tor, z_Tnot, z_Ttv, z_nil, z_cons, z_Fnil, z_Fcons, z_Tsn, z_Ts1, z_rng1, int2Q_1, z_rng2, z_enm, z_zip, z_sq, z_Bnil, z_Bcons, z_asg, z_asgt, z_asg2, z_setf, z_seti, augQ_1, augQ_2, z_augn, z_augf, z_exp, z_ret, z_retN, z_if, z_for, z_whl, z_brk, z_cnt, z_pas, z_rais0, z_rais1, z_try, z_Hnil, z_Hcons, v_v0, v_vs, v_add, v_sub, v_mul, v_fdiv, v_mod, v_pow, v_sadd, v_tadd, v_ladd, v_lmul, v_int, v_intb, v_abs, v_max2, v_min2, v_stri, v_lens, v_lenm, v_len0, v_len1, v_len2, v_len3, v_len4, v_len5, v_len6, v_lenr, v_tupt, v_tupr, v_lstt, v_lstr, v_any, v_all, v_ixt, v_ixr, v_kon, v_seti, strQ_1, strQ_2, strQ_3, v_pts, v_ptn, v_sls, v_slt, v_slr, v_fld, v_setf, v_okl, v_oks, v_app, v_pop, v_lt, v_le, v_gt, v_ge, v_eq, v_ne, v_in, v_ni, v_eqii, v_eqss, v_eqbb, v_eqsi, v_eqis, v_eqni, v_eqin, v_eqns, v_eqsn, v_trn, v_trb, v_tri, v_trt, v_trr, v_trs, v_fms, v_fmi, v_inp, inrQ_1, inrQ_2, inrQ_3, v_inl, v_inK, v_ins, t_n, t_b, t_i, t_s, t_t, t_r, tyO_1, tyO_2, tyO_3, tyO_4, y_n, y_b, y_i, y_s, y_t, y_l, y_d, y_o, y_o1, y_o2, y_o3, y_o4, y_o5, y_o6, w_t, w_s, w_r, w_e, w_zs, w_zt, List.map_cons, List.map_nil, List.replicate_succ, List.replicate_zero, List.cons_append, List.nil_append, List.append_nil, List.set_cons_zero, List.set_cons_succ, List.any_cons, List.any_nil, List.lookup_cons_self, meT, reduceCtorEq, decide_true, decide_false, Bool.or_false, Bool.false_or, Bool.or_true, Bool.true_or, Bool.not_true, Bool.not_false, Bool.and_true, Bool.true_and, Bool.and_false, Bool.false_and, true_and, and_true, wipeE, Option.isSome_some, Option.isSome_none, List.getElem?_concat_length, Nat.reduceBEq, Int.reduceEq, Int.reduceLT, Int.reduceLE, Int.reduceNeg, glo_0, glo_1, glo_2, glo_3, glo_4, glo_5, glo_6, glo_7, glo_8, konn_0, konq_0_0, konq_0_1, konq_0_2, konq_0_3, konq_0_4, konq_0_5, konq_0_6, konq_0_7, alt_0, alt_1, alt_2, alt_3, alt_4, alt_5, alt_6, alt_7, alt_8, exf_0, exf_1, exf_2, exf_3, exf_4, exf_5, c_PastError, c_NoName, c_NoState, c_HasCoins, c_NoVault, c_NoRow, c_Body, c_Walk, c_Vault, d_size_row, d_choice_table, d_coined, d_used, d_trace, d_cells, d_result, d_begin, d_deed_row, d_coin_count, d_row_count, d_many_cells, d_body_table, d_coins, d_held, d_cell_row, d_part, d_index, $ls,*])
local macro_rules
  | `(tactic| simp!) => `(tactic| simp (implicitDefEqProofs := false) (dsimp := false) (failIfUnchanged := false) only [lz1, z_ifT, z_ifF, k_c0, k_c1, k_c2, k_c3, k_c4, k_c5, k_c6, k_few0, k_fewS, k_lkm, k_pf0, k_pfh, k_pfm, k_cls, k_clsO, ks_nx, ks_rt, ks_bk, ks_ct, ks_xc, kl_nx, kl_rt, kl_bk, kl_ct, kl_xc, kc_nx, kc_rt, kc_xc, kt_nx, kt_rt, kt_bk, kt_ct, kt_xc, kh_nx, kh_rt, un_n, un_s, isNon_1, isNon_2, isNon_3, isNon_4, isNon_5, isNon_6, isNon_7, boolQ_1, intQ_1, optQ_1, lstQ_1, sqQ_1, sqQ_2, cntQ_1, cntQ_2, cntQ_3, dicQ_1, insQ_1, getIx_0, getIx_1, getIx_2, getIx_3, getIx_4, getIx_5, ixrQ_1, ixrQ_2, ixrQ_3, ixrQ_4, setIx_0, setIx_1, setIx_2, bindQ_nm, bindL_0, bindL_1, bindQ_tp, z_var, z_con, z_glo, z_bin, z_neg, z_cmp, z_chain, z_isN, z_notN, z_and, z_or, z_not, z_ife, z_call, z_make, methQ_1, z_meth, z_fld, z_pr, z_me, z_isi, z_idx, z_sli, z_abs0, z_tup, z_lst, z_dic, z_dcomp, z_fstr, z_efld, z_eisi, z_comp, z_Tcmp, z_Tchain, z_TisN, z_TnotN, z_Tand, z_Tor, z_Tnot, z_Ttv, z_nil, z_cons, z_Fnil, z_Fcons, z_Tsn, z_Ts1, z_rng1, int2Q_1, z_rng2, z_enm, z_zip, z_sq, z_Bnil, z_Bcons, z_asg, z_asgt, z_asg2, z_setf, z_seti, augQ_1, augQ_2, z_augn, z_augf, z_exp, z_ret, z_retN, z_if, z_for, z_whl, z_brk, z_cnt, z_pas, z_rais0, z_rais1, z_try, z_Hnil, z_Hcons, v_v0, v_vs, v_add, v_sub, v_mul, v_fdiv, v_mod, v_pow, v_sadd, v_tadd, v_ladd, v_lmul, v_int, v_intb, v_abs, v_max2, v_min2, v_stri, v_lens, v_lenm, v_len0, v_len1, v_len2, v_len3, v_len4, v_len5, v_len6, v_lenr, v_tupt, v_tupr, v_lstt, v_lstr, v_any, v_all, v_ixt, v_ixr, v_kon, v_seti, strQ_1, strQ_2, strQ_3, v_pts, v_ptn, v_sls, v_slt, v_slr, v_fld, v_setf, v_okl, v_oks, v_app, v_pop, v_lt, v_le, v_gt, v_ge, v_eq, v_ne, v_in, v_ni, v_eqii, v_eqss, v_eqbb, v_eqsi, v_eqis, v_eqni, v_eqin, v_eqns, v_eqsn, v_trn, v_trb, v_tri, v_trt, v_trr, v_trs, v_fms, v_fmi, v_inp, inrQ_1, inrQ_2, inrQ_3, v_inl, v_inK, v_ins, t_n, t_b, t_i, t_s, t_t, t_r, tyO_1, tyO_2, tyO_3, tyO_4, y_n, y_b, y_i, y_s, y_t, y_l, y_d, y_o, y_o1, y_o2, y_o3, y_o4, y_o5, y_o6, w_t, w_s, w_r, w_e, w_zs, w_zt, List.map_cons, List.map_nil, List.replicate_succ, List.replicate_zero, List.cons_append, List.nil_append, List.append_nil, List.set_cons_zero, List.set_cons_succ, List.any_cons, List.any_nil, List.lookup_cons_self, meT, reduceCtorEq, decide_true, decide_false, Bool.or_false, Bool.false_or, Bool.or_true, Bool.true_or, Bool.not_true, Bool.not_false, Bool.and_true, Bool.true_and, Bool.and_false, Bool.false_and, true_and, and_true, wipeE, Option.isSome_some, Option.isSome_none, List.getElem?_concat_length, Nat.reduceBEq, Int.reduceEq, Int.reduceLT, Int.reduceLE, Int.reduceNeg, glo_0, glo_1, glo_2, glo_3, glo_4, glo_5, glo_6, glo_7, glo_8, konn_0, konq_0_0, konq_0_1, konq_0_2, konq_0_3, konq_0_4, konq_0_5, konq_0_6, konq_0_7, alt_0, alt_1, alt_2, alt_3, alt_4, alt_5, alt_6, alt_7, alt_8, exf_0, exf_1, exf_2, exf_3, exf_4, exf_5, c_PastError, c_NoName, c_NoState, c_HasCoins, c_NoVault, c_NoRow, c_Body, c_Walk, c_Vault, d_size_row, d_choice_table, d_coined, d_used, d_trace, d_cells, d_result, d_begin, d_deed_row, d_coin_count, d_row_count, d_many_cells, d_body_table, d_coins, d_held, d_cell_row, d_part, d_index])
def CallD (xs : List Dd) (d : D) : Prop := ∃ x n, x ∈ xs ∧ n < x.ch ∧ d = calD x n
theorem lawcalls {k g many coins : Nat} {xs : List Dd} {st : Store} {Q : QE} {X : QX} (eg : st[g]? = some (.lst (xs.map Dd.d))) (l1 : 1 ≤ xs.length) (l4 : xs.length ≤ 4) (hx : ∀ x ∈ xs, DeedP many coins x) (hq : ∀ (cs : List D) (s : Store), 1 ≤ cs.length → cs.length ≤ 12 → (∀ d ∈ cs, CallD xs d) → s[st.length]? = some (.lst cs) → Keep st s → Q (.ref st.length) s) : Call T (k + 1) n__law_calls [.ref g] st Q X := by
  refine call_z f__law_calls.fn rfl rfl ?_
  show wpB T (Call T k) none b__law_calls [some (.ref g), none, none, none] st _
  unfold b__law_calls
  have eg1 := get_app [.lst []] eg
  simp! [eg1]
  refine for_l (ds := xs.map Dd.d) (fun r env s => ∃ (bs : List Dd) (cs : List D) (i : Nat) (q2 q3 : Option D), r = bs.map Dd.d ∧ i + bs.length = xs.length ∧ (∀ x ∈ bs, x ∈ xs) ∧ i ≤ cs.length ∧ cs.length ≤ 3 * i ∧ (∀ d ∈ cs, CallD xs d) ∧ s[st.length]? = some (.lst cs) ∧ Keep st s ∧ env = [some (.ref g), some (.ref st.length), q2, q3]) ⟨xs, [], 0, none, none, rfl, by omega, fun _ m => m, Nat.le_refl _, Nat.le_refl _, (fun d m => by cases m), get_snoc _ _, .new _ _, rfl⟩ (fun r env s ⟨bs, cs, i, q2, q3, a1, a2, a3, a4, a5, a6, a7, a8, a9⟩ => by rw [a8.get eg]; rfl) (fun d r env s N ⟨bs, cs, i, q2, q3, a1, a2, a3, a4, a5, a6, a7, a8, a9⟩ hN => ?_) (fun env s ⟨bs, cs, i, q2, q3, a1, a2, a3, a4, a5, a6, a7, a8, a9⟩ => ?_)
  · subst a9
    cases bs with
    | nil => cases a1
    | cons x bs =>
      cases a1
      have mx := a3 x List.mem_cons_self
      have dp := hx x mx
      have d1 := dp.lo
      have d3 := dp.hi
      rw [List.length_cons] at a2
      simp! [Dd.d]
      refine ⟨by omega, by omega, ?_⟩
      rw [Int.toNat_natCast, rngD_rg]
      refine for_s (fun r env s' => ∃ (j m : Nat) (cs' : List D) (q3 : Option D), j + m = x.ch ∧ r = rg j m ∧ cs'.length = cs.length + j ∧ (∀ d ∈ cs', CallD xs d) ∧ s'[st.length]? = some (.lst cs') ∧ Keep st s' ∧ env = [some (.ref g), some (.ref st.length), some (.tup [.str x.nm, .int x.ch, .tup (Rw.ds x.rows)]), q3]) ⟨0, x.ch, cs, q3, by omega, rfl, rfl, a6, a7, a8, rfl⟩ (fun d r env s' N' ⟨j, m, cs', q3, b1, b2, b3, b4, b5, b6, b7⟩ hN' => ?_) (fun env s' ⟨j, m, cs', q3, b1, b2, b3, b4, b5, b6, b7⟩ => ?_)
      · subst b7
        cases m with
        | zero => cases b2
        | succ m =>
          rw [rg_succ] at b2
          cases b2
          simp! [b5]
          refine ⟨lt_line (by omega), hN' _ _ ⟨j + 1, m, cs' ++ [calD x j], _, by omega, rfl, by simp [b3]; omega, fun d hd => ?_, set_get b5, b6.set _ (Nat.le_refl _), rfl⟩⟩
          rcases List.mem_append.mp hd with z | z
          · exact b4 d z
          · rw [List.mem_singleton.mp z]
            exact ⟨x, j, mx, by omega, rfl⟩
      · subst b7
        cases m with
        | succ m => rw [rg_succ] at b2; cases b2
        | zero =>
          simp!
          exact hN _ _ ⟨bs, cs', i + 1, _, _, rfl, by omega, fun y m => a3 y (List.mem_cons_of_mem _ m), by omega, by omega, b4, b5, b6, rfl⟩
  · subst a9
    cases bs with
    | cons x bs => cases a1
    | nil =>
      simp!
      rw [List.length_nil] at a2
      exact hq cs s (by omega) (by omega) a6 a7 a8
end Y.K_k12
set_option linter.all false
set_option maxHeartbeats 1600000
set_option maxRecDepth 100000
namespace Y.K_k12
open Y PySem
local macro_rules
  | `(tactic| simp! [$ls,*]) => `(tactic| simp (implicitDefEqProofs := false) (dsimp := false) (failIfUnchanged := false) only [lz1, z_ifT, z_ifF, k_c0, k_c1, k_c2, k_c3, k_c4, k_c5, k_c6, k_few0, k_fewS, k_lkm, k_pf0, k_pfh, k_pfm, k_cls, k_clsO, ks_nx, ks_rt, ks_bk, ks_ct, ks_xc, kl_nx, kl_rt, kl_bk, kl_ct, kl_xc, kc_nx, kc_rt, kc_xc, kt_nx, kt_rt, kt_bk, kt_ct, kt_xc, kh_nx, kh_rt, un_n, un_s, isNon_1, isNon_2, isNon_3, isNon_4, isNon_5, isNon_6, isNon_7, boolQ_1, intQ_1, optQ_1, lstQ_1, sqQ_1, sqQ_2, cntQ_1, cntQ_2, cntQ_3, dicQ_1, insQ_1, getIx_0, getIx_1, getIx_2, getIx_3, getIx_4, getIx_5, ixrQ_1, ixrQ_2, ixrQ_3, ixrQ_4, setIx_0, setIx_1, setIx_2, bindQ_nm, bindL_0, bindL_1, bindQ_tp, z_var, z_con, z_glo, z_bin, z_neg, z_cmp, z_chain, z_isN, z_notN, z_and, z_or, z_not, z_ife, z_call, z_make, methQ_1, z_meth, z_fld, z_pr, z_me, z_isi, z_idx, z_sli, z_abs0, z_tup, z_lst, z_dic, z_dcomp, z_fstr, z_efld, z_eisi, z_comp, z_Tcmp, z_Tchain, z_TisN, z_TnotN, z_Tand, z_Tor, z_Tnot, z_Ttv, z_nil, z_cons, z_Fnil, z_Fcons, z_Tsn, z_Ts1, z_rng1, int2Q_1, z_rng2, z_enm, z_zip, z_sq, z_Bnil, z_Bcons, z_asg, z_asgt, z_asg2, z_setf, z_seti, augQ_1, augQ_2, z_augn, z_augf, z_exp, z_ret, z_retN, z_if, z_for, z_whl, z_brk, z_cnt, z_pas, z_rais0, z_rais1, z_try, z_Hnil, z_Hcons, v_v0, v_vs, v_add, v_sub, v_mul, v_fdiv, v_mod, v_pow, v_sadd, v_tadd, v_ladd, v_lmul, v_int, v_intb, v_abs, v_max2, v_min2, v_stri, v_lens, v_lenm, v_len0, v_len1, v_len2, v_len3, v_len4, v_len5, v_len6, v_lenr, v_tupt, v_tupr, v_lstt, v_lstr, v_any, v_all, v_ixt, v_ixr, v_kon, v_seti, strQ_1, strQ_2, strQ_3, v_pts, v_ptn, v_sls, v_slt, v_slr, v_fld, v_setf, v_okl, v_oks, v_app, v_pop, v_lt, v_le, v_gt, v_ge, v_eq, v_ne, v_in, v_ni, v_eqii, v_eqss, v_eqbb, v_eqsi, v_eqis, v_eqni, v_eqin, v_eqns, v_eqsn, v_trn, v_trb, v_tri, v_trt, v_trr, v_trs, v_fms, v_fmi, v_inp, inrQ_1, inrQ_2, inrQ_3, v_inl, v_inK, v_ins, t_n, t_b, t_i, t_s, t_t, t_r, tyO_1, tyO_2, tyO_3, tyO_4, y_n, y_b, y_i, y_s, y_t, y_l, y_d, y_o, y_o1, y_o2, y_o3, y_o4, y_o5, y_o6, w_t, w_s, w_r, w_e, w_zs, w_zt, List.map_cons, List.map_nil, List.replicate_succ, List.replicate_zero, List.cons_append, List.nil_append, List.append_nil, List.set_cons_zero, List.set_cons_succ, List.any_cons, List.any_nil, List.lookup_cons_self, meT, reduceCtorEq, decide_true, decide_false, Bool.or_false, Bool.false_or, Bool.or_true, Bool.true_or, Bool.not_true, Bool.not_false, Bool.and_true, Bool.true_and, Bool.and_false, Bool.false_and, true_and, and_true, wipeE, Option.isSome_some, Option.isSome_none, List.getElem?_concat_length, Nat.reduceBEq, Int.reduceEq, Int.reduceLT, Int.reduceLE, Int.reduceNeg, glo_0, glo_1, glo_2, glo_3, glo_4, glo_5, glo_6, glo_7, glo_8, konn_0, konq_0_0, konq_0_1, konq_0_2, konq_0_3, konq_0_4, konq_0_5, konq_0_6, konq_0_7, alt_0, alt_1, alt_2, alt_3, alt_4, alt_5, alt_6, alt_7, alt_8, exf_0, exf_1, exf_2, exf_3, exf_4, exf_5, c_PastError, c_NoName, c_NoState, c_HasCoins, c_NoVault, c_NoRow, c_Body, c_Walk, c_Vault, d_size_row, d_choice_table, d_coined, d_used, d_trace, d_cells, d_result, d_begin, d_deed_row, d_coin_count, d_row_count, d_many_cells, d_body_table, d_coins, d_held, d_cell_row, d_part, d_index, $ls,*])
local macro_rules
  | `(tactic| simp!) => `(tactic| simp (implicitDefEqProofs := false) (dsimp := false) (failIfUnchanged := false) only [lz1, z_ifT, z_ifF, k_c0, k_c1, k_c2, k_c3, k_c4, k_c5, k_c6, k_few0, k_fewS, k_lkm, k_pf0, k_pfh, k_pfm, k_cls, k_clsO, ks_nx, ks_rt, ks_bk, ks_ct, ks_xc, kl_nx, kl_rt, kl_bk, kl_ct, kl_xc, kc_nx, kc_rt, kc_xc, kt_nx, kt_rt, kt_bk, kt_ct, kt_xc, kh_nx, kh_rt, un_n, un_s, isNon_1, isNon_2, isNon_3, isNon_4, isNon_5, isNon_6, isNon_7, boolQ_1, intQ_1, optQ_1, lstQ_1, sqQ_1, sqQ_2, cntQ_1, cntQ_2, cntQ_3, dicQ_1, insQ_1, getIx_0, getIx_1, getIx_2, getIx_3, getIx_4, getIx_5, ixrQ_1, ixrQ_2, ixrQ_3, ixrQ_4, setIx_0, setIx_1, setIx_2, bindQ_nm, bindL_0, bindL_1, bindQ_tp, z_var, z_con, z_glo, z_bin, z_neg, z_cmp, z_chain, z_isN, z_notN, z_and, z_or, z_not, z_ife, z_call, z_make, methQ_1, z_meth, z_fld, z_pr, z_me, z_isi, z_idx, z_sli, z_abs0, z_tup, z_lst, z_dic, z_dcomp, z_fstr, z_efld, z_eisi, z_comp, z_Tcmp, z_Tchain, z_TisN, z_TnotN, z_Tand, z_Tor, z_Tnot, z_Ttv, z_nil, z_cons, z_Fnil, z_Fcons, z_Tsn, z_Ts1, z_rng1, int2Q_1, z_rng2, z_enm, z_zip, z_sq, z_Bnil, z_Bcons, z_asg, z_asgt, z_asg2, z_setf, z_seti, augQ_1, augQ_2, z_augn, z_augf, z_exp, z_ret, z_retN, z_if, z_for, z_whl, z_brk, z_cnt, z_pas, z_rais0, z_rais1, z_try, z_Hnil, z_Hcons, v_v0, v_vs, v_add, v_sub, v_mul, v_fdiv, v_mod, v_pow, v_sadd, v_tadd, v_ladd, v_lmul, v_int, v_intb, v_abs, v_max2, v_min2, v_stri, v_lens, v_lenm, v_len0, v_len1, v_len2, v_len3, v_len4, v_len5, v_len6, v_lenr, v_tupt, v_tupr, v_lstt, v_lstr, v_any, v_all, v_ixt, v_ixr, v_kon, v_seti, strQ_1, strQ_2, strQ_3, v_pts, v_ptn, v_sls, v_slt, v_slr, v_fld, v_setf, v_okl, v_oks, v_app, v_pop, v_lt, v_le, v_gt, v_ge, v_eq, v_ne, v_in, v_ni, v_eqii, v_eqss, v_eqbb, v_eqsi, v_eqis, v_eqni, v_eqin, v_eqns, v_eqsn, v_trn, v_trb, v_tri, v_trt, v_trr, v_trs, v_fms, v_fmi, v_inp, inrQ_1, inrQ_2, inrQ_3, v_inl, v_inK, v_ins, t_n, t_b, t_i, t_s, t_t, t_r, tyO_1, tyO_2, tyO_3, tyO_4, y_n, y_b, y_i, y_s, y_t, y_l, y_d, y_o, y_o1, y_o2, y_o3, y_o4, y_o5, y_o6, w_t, w_s, w_r, w_e, w_zs, w_zt, List.map_cons, List.map_nil, List.replicate_succ, List.replicate_zero, List.cons_append, List.nil_append, List.append_nil, List.set_cons_zero, List.set_cons_succ, List.any_cons, List.any_nil, List.lookup_cons_self, meT, reduceCtorEq, decide_true, decide_false, Bool.or_false, Bool.false_or, Bool.or_true, Bool.true_or, Bool.not_true, Bool.not_false, Bool.and_true, Bool.true_and, Bool.and_false, Bool.false_and, true_and, and_true, wipeE, Option.isSome_some, Option.isSome_none, List.getElem?_concat_length, Nat.reduceBEq, Int.reduceEq, Int.reduceLT, Int.reduceLE, Int.reduceNeg, glo_0, glo_1, glo_2, glo_3, glo_4, glo_5, glo_6, glo_7, glo_8, konn_0, konq_0_0, konq_0_1, konq_0_2, konq_0_3, konq_0_4, konq_0_5, konq_0_6, konq_0_7, alt_0, alt_1, alt_2, alt_3, alt_4, alt_5, alt_6, alt_7, alt_8, exf_0, exf_1, exf_2, exf_3, exf_4, exf_5, c_PastError, c_NoName, c_NoState, c_HasCoins, c_NoVault, c_NoRow, c_Body, c_Walk, c_Vault, d_size_row, d_choice_table, d_coined, d_used, d_trace, d_cells, d_result, d_begin, d_deed_row, d_coin_count, d_row_count, d_many_cells, d_body_table, d_coins, d_held, d_cell_row, d_part, d_index])
structure LAt (sz : List Nat) (L : List Int) (sh ch hd fh th : Nat) (s : Store) (W : Wk) : Prop where
  z : s[sh]? = some (.lst (sz.map natD))
  c : s[ch]? = some (.lst (W.cells.map natD))
  h : s[hd]? = some (.dic W.r.dc)
  f : s[fh]? = some (.lst ((L.drop W.used).map D.int))
  t : s[th]? = some (.lst W.trace)
  ne : sh < ch ∧ sh ≠ hd ∧ sh ≠ fh ∧ sh ≠ th ∧ hd ≠ ch ∧ hd ≠ fh ∧ hd ≠ th ∧ ch ≠ fh ∧ ch ≠ th ∧ fh ≠ th
structure K5 (ch hd fh th : Nat) (st s : Store) : Prop where
  len : st.length ≤ s.length
  same : ∀ g, g ≠ ch → g ≠ hd → g ≠ fh → g ≠ th → g < st.length → s[g]? = st[g]?
theorem K5.refl (ch hd fh th : Nat) (st : Store) : K5 ch hd fh th st st := ⟨Nat.le_refl _, fun _ _ _ _ _ _ => rfl⟩
theorem K5.trans {ch hd fh th : Nat} {a b c : Store} (x : K5 ch hd fh th a b) (y : K5 ch hd fh th b c) : K5 ch hd fh th a c := ⟨Nat.le_trans x.len y.len, fun g n1 n2 n3 n4 l => (y.same g n1 n2 n3 n4 (Nat.lt_of_lt_of_le l x.len)).trans (x.same g n1 n2 n3 n4 l)⟩
theorem K5.set {ch hd fh th : Nat} {a : Store} (g : Nat) (o : O) (h : g = ch ∨ g = hd ∨ g = fh ∨ g = th) : K5 ch hd fh th a (a.set g o) := ⟨by simp, fun x n1 n2 n3 n4 l => List.getElem?_set_ne (by rcases h with e | e | e | e <;> subst e <;> exact Ne.symm (by assumption))⟩
section
variable {sz : List Nat} {L : List Int} {sh ch hd fh th : Nat}
theorem LAt.setC {s : Store} {W : Wk} (A : LAt sz L sh ch hd fh th s W) (cs : List Nat) : LAt sz L sh ch hd fh th (s.set ch (.lst (cs.map natD))) { W with cells := cs } := by
  obtain ⟨z, c, h, f, t, n1, n2, n3, n4, n5, n6, n7, n8, n9, n10⟩ := A
  exact ⟨get_set z (by omega), set_get c, get_set h (by omega), get_set f (by omega), get_set t (by omega), n1, n2, n3, n4, n5, n6, n7, n8, n9, n10⟩
theorem LAt.setH {s : Store} {W : Wk} (A : LAt sz L sh ch hd fh th s W) (r : Rg) : LAt sz L sh ch hd fh th (s.set hd (.dic r.dc)) { W with r := r } := by
  obtain ⟨z, c, h, f, t, n1, n2, n3, n4, n5, n6, n7, n8, n9, n10⟩ := A
  exact ⟨get_set z (by omega), get_set c (by omega), set_get h, get_set f (by omega), get_set t (by omega), n1, n2, n3, n4, n5, n6, n7, n8, n9, n10⟩
theorem LAt.setT {s : Store} {W : Wk} (A : LAt sz L sh ch hd fh th s W) (tr : List D) : LAt sz L sh ch hd fh th (s.set th (.lst tr)) { W with trace := tr } := by
  obtain ⟨z, c, h, f, t, n1, n2, n3, n4, n5, n6, n7, n8, n9, n10⟩ := A
  exact ⟨get_set z (by omega), get_set c (by omega), get_set h (by omega), get_set f (by omega), set_get t, n1, n2, n3, n4, n5, n6, n7, n8, n9, n10⟩
theorem lawstep {k : Nat} {W : Wk} {st : Store} {Q : QE} {X : QX} (so : SzOk sz L) (A : LAt sz L sh ch hd fh th st W) (ok : W.ok sz L) (r : Rw) {rec : List Rw → Wk → Res} {h depth loops : Nat} (hr : rowOk h sz.length depth loops r) (lt : W.trace.length < 1000000)
    (kind : (∃ c e, r = .set c e) ∨ (∃ g c, r = .read g c) ∨ ∃ g c e f, r = .swap g c e f) (hq : ∀ s, K5 ch hd fh th st s → LAt sz L sh ch hd fh th s (stepRw sz L rec r W).2 → Q .non s) : Call T (k + 8) n__law_step [r.d, .ref sh, .ref ch, .ref hd, .ref th] st Q X := by
  refine call_z f__law_step.fn rfl rfl ?_
  show wpB T (Call T (k + 7)) none b__law_step [some r.d, some (.ref sh), some (.ref ch), some (.ref hd), some (.ref th), none, none, none] st _
  unfold b__law_step
  have tl : W.trace.length < line := lt_line (by omega)
  have lc := ok.len
  rcases kind with ⟨c, e, rfl⟩ | ⟨g, c, rfl⟩ | ⟨g, c, e, f, rfl⟩
  · obtain ⟨hc, he⟩ := hr
    have t0 : decide (wSet = ([114, 101, 97, 100] : List Nat)) = false := by decide
    have t1 : decide (wSet = ([115, 101, 116] : List Nat)) = true := by decide
    have s9 := so.sz _ (List.getElem_mem hc)
    have gd : (W.cells.set c (inCell sz c (e.val W.r)))[c]'(by simp; omega) = inCell sz c (e.val W.r) := by simp
    have A1 := A.setC (W.cells.set c (inCell sz c (e.val W.r)))
    have A2 := A1.setT (W.trace ++ [tell wSet c (inCell sz c (e.val W.r)) (W.cells.set c (inCell sz c (e.val W.r)))])
    have ec1 := A1.c
    have et1 := A1.t
    simp! [Rw.d, t0, t1]
    refine lawvalue 6 e he k hd W.r st _ X A.h ok.r ?_
    simp! [A.z]
    rw [getIx_map (f := natD) hc]
    simp! [natD]
    refine ⟨by omega, ?_⟩
    simp! [A.c]
    rw [setIx_map (f := natD) (v := inCell sz c (e.val W.r)) (by omega) (inCell_int so hc _), lz1]
    simp! [et1, ec1]
    rw [getIx_map (f := natD) (show c < (W.cells.set c (inCell sz c (e.val W.r))).length by simp; omega), gd]
    simp! [et1, ec1]
    exact ⟨tl, hq _ ((K5.set ch _ (.inl rfl)).trans (K5.set th _ (.inr (.inr (.inr rfl))))) A2⟩
  · obtain ⟨hg, hc⟩ := hr
    have t1 : decide (wRead = ([114, 101, 97, 100] : List Nat)) = true := by decide
    have gd : W.cells.getD c 0 = W.cells[c]'(by omega) := by rw [List.getD_eq_getElem?_getD, List.getElem?_eq_getElem (by omega)]; rfl
    have A1 := A.setH (W.r.put g (W.cells.getD c 0))
    have A2 := A1.setT (W.trace ++ [tell wRead c (W.cells.getD c 0) W.cells])
    have et1 := A1.t
    have ec1 := A1.c
    simp! [Rw.d, t1, A.c]
    rw [getIx_map (f := natD) (show c < W.cells.length by omega), ← gd]
    simp! [A.h, natD]
    refine ⟨lt_line (by simp [Rg.dc]), ?_⟩
    rw [Rg.putK (keepers_regs hg)]
    simp! [et1, ec1]
    rw [getIx_map (f := natD) (show c < W.cells.length by omega), ← gd]
    simp! [et1, ec1]
    exact ⟨tl, hq _ ((K5.set hd _ (.inr (.inl rfl))).trans (K5.set th _ (.inr (.inr (.inr rfl))))) A2⟩
  · obtain ⟨hg, hc, he, hf⟩ := hr
    have t0 : decide (wSwap = ([114, 101, 97, 100] : List Nat)) = false := by decide
    have t1 : decide (wSwap = ([115, 101, 116] : List Nat)) = false := by decide
    have s9 := so.sz _ (List.getElem_mem hc)
    have gd : W.cells.getD c 0 = W.cells[c]'(by omega) := by rw [List.getD_eq_getElem?_getD, List.getElem?_eq_getElem (by omega)]; rfl
    simp! [Rw.d, t0, t1]
    refine lawvalue 6 e he k hd W.r st _ X A.h ok.r ?_
    simp!
    refine lawvalue 6 f hf k hd W.r st _ X A.h ok.r ?_
    simp! [A.c]
    rw [getIx_map (f := natD) (show c < W.cells.length by omega), ← gd]
    simp! [natD]
    have hq' : ∀ s, K5 ch hd fh th st s → LAt sz L sh ch hd fh th s (if (W.cells.getD c 0 : Int) = e.val W.r then
      (none, { W with cells := W.cells.set c (inCell sz c (f.val W.r)), r := W.r.put g 1, trace := W.trace ++ [tell wSwap c 1 (W.cells.set c (inCell sz c (f.val W.r)))] })
      else (none, { W with r := W.r.put g 0, trace := W.trace ++ [tell wSwap c 0 W.cells] }) : Res).2 → Q .non s := hq
    by_cases z : (W.cells.getD c 0 : Int) = e.val W.r
    · rw [if_pos z] at hq'
      have d1 : decide ((W.cells.getD c 0 : Int) = e.val W.r) = true := decide_eq_true z
      have i1 : (if true = true then (1 : Int) else 0) = 1 := rfl
      have A1 := A.setC (W.cells.set c (inCell sz c (f.val W.r)))
      have A2 := A1.setH (W.r.put g 1)
      have A3 := A2.setT (W.trace ++ [tell wSwap c 1 (W.cells.set c (inCell sz c (f.val W.r)))])
      have eh1 := A1.h
      have et2 := A2.t
      have ec2 := A2.c
      rw [d1, i1]
      simp! [A.z]
      rw [getIx_map (f := natD) hc]
      simp! [natD]
      refine ⟨by omega, ?_⟩
      simp! [A.c]
      rw [setIx_map (f := natD) (v := inCell sz c (f.val W.r)) (by omega) (inCell_int so hc _), lz1]
      simp! [eh1]
      refine ⟨lt_line (by simp [Rg.dc]), ?_⟩
      rw [Rg.putK (keepers_regs hg)]
      simp! [et2, ec2]
      exact ⟨tl, hq' _ (((K5.set ch _ (.inl rfl)).trans (K5.set hd _ (.inr (.inl rfl)))).trans (K5.set th _ (.inr (.inr (.inr rfl))))) A3⟩
    · rw [if_neg z] at hq'
      have d1 : decide ((W.cells.getD c 0 : Int) = e.val W.r) = false := decide_eq_false z
      have i1 : (if false = true then (1 : Int) else 0) = 0 := rfl
      have A1 := A.setH (W.r.put g 0)
      have A2 := A1.setT (W.trace ++ [tell wSwap c 0 W.cells])
      have et1 := A1.t
      have ec1 := A1.c
      rw [d1, i1]
      simp! [A.h]
      refine ⟨lt_line (by simp [Rg.dc]), ?_⟩
      rw [Rg.putK (keepers_regs hg)]
      simp! [et1, ec1]
      exact ⟨tl, hq' _ ((K5.set hd _ (.inr (.inl rfl))).trans (K5.set th _ (.inr (.inr (.inr rfl))))) A2⟩
end
end Y.K_k12
set_option linter.all false
set_option maxHeartbeats 1600000
set_option maxRecDepth 100000
namespace Y.K_k12
open Y PySem
local macro_rules
  | `(tactic| simp! [$ls,*]) => `(tactic| simp (implicitDefEqProofs := false) (dsimp := false) (failIfUnchanged := false) only [lz1, z_ifT, z_ifF, k_c0, k_c1, k_c2, k_c3, k_c4, k_c5, k_c6, k_few0, k_fewS, k_lkm, k_pf0, k_pfh, k_pfm, k_cls, k_clsO, ks_nx, ks_rt, ks_bk, ks_ct, ks_xc, kl_nx, kl_rt, kl_bk, kl_ct, kl_xc, kc_nx, kc_rt, kc_xc, kt_nx, kt_rt, kt_bk, kt_ct, kt_xc, kh_nx, kh_rt, un_n, un_s, isNon_1, isNon_2, isNon_3, isNon_4, isNon_5, isNon_6, isNon_7, boolQ_1, intQ_1, optQ_1, lstQ_1, sqQ_1, sqQ_2, cntQ_1, cntQ_2, cntQ_3, dicQ_1, insQ_1, getIx_0, getIx_1, getIx_2, getIx_3, getIx_4, getIx_5, ixrQ_1, ixrQ_2, ixrQ_3, ixrQ_4, setIx_0, setIx_1, setIx_2, bindQ_nm, bindL_0, bindL_1, bindQ_tp, z_var, z_con, z_glo, z_bin, z_neg, z_cmp, z_chain, z_isN, z_notN, z_and, z_or, z_not, z_ife, z_call, z_make, methQ_1, z_meth, z_fld, z_pr, z_me, z_isi, z_idx, z_sli, z_abs0, z_tup, z_lst, z_dic, z_dcomp, z_fstr, z_efld, z_eisi, z_comp, z_Tcmp, z_Tchain, z_TisN, z_TnotN, z_Tand, z_Tor, z_Tnot, z_Ttv, z_nil, z_cons, z_Fnil, z_Fcons, z_Tsn, z_Ts1, z_rng1, int2Q_1, z_rng2, z_enm, z_zip, z_sq, z_Bnil, z_Bcons, z_asg, z_asgt, z_asg2, z_setf, z_seti, augQ_1, augQ_2, z_augn, z_augf, z_exp, z_ret, z_retN, z_if, z_for, z_whl, z_brk, z_cnt, z_pas, z_rais0, z_rais1, z_try, z_Hnil, z_Hcons, v_v0, v_vs, v_add, v_sub, v_mul, v_fdiv, v_mod, v_pow, v_sadd, v_tadd, v_ladd, v_lmul, v_int, v_intb, v_abs, v_max2, v_min2, v_stri, v_lens, v_lenm, v_len0, v_len1, v_len2, v_len3, v_len4, v_len5, v_len6, v_lenr, v_tupt, v_tupr, v_lstt, v_lstr, v_any, v_all, v_ixt, v_ixr, v_kon, v_seti, strQ_1, strQ_2, strQ_3, v_pts, v_ptn, v_sls, v_slt, v_slr, v_fld, v_setf, v_okl, v_oks, v_app, v_pop, v_lt, v_le, v_gt, v_ge, v_eq, v_ne, v_in, v_ni, v_eqii, v_eqss, v_eqbb, v_eqsi, v_eqis, v_eqni, v_eqin, v_eqns, v_eqsn, v_trn, v_trb, v_tri, v_trt, v_trr, v_trs, v_fms, v_fmi, v_inp, inrQ_1, inrQ_2, inrQ_3, v_inl, v_inK, v_ins, t_n, t_b, t_i, t_s, t_t, t_r, tyO_1, tyO_2, tyO_3, tyO_4, y_n, y_b, y_i, y_s, y_t, y_l, y_d, y_o, y_o1, y_o2, y_o3, y_o4, y_o5, y_o6, w_t, w_s, w_r, w_e, w_zs, w_zt, List.map_cons, List.map_nil, List.replicate_succ, List.replicate_zero, List.cons_append, List.nil_append, List.append_nil, List.set_cons_zero, List.set_cons_succ, List.any_cons, List.any_nil, List.lookup_cons_self, meT, reduceCtorEq, decide_true, decide_false, Bool.or_false, Bool.false_or, Bool.or_true, Bool.true_or, Bool.not_true, Bool.not_false, Bool.and_true, Bool.true_and, Bool.and_false, Bool.false_and, true_and, and_true, wipeE, Option.isSome_some, Option.isSome_none, List.getElem?_concat_length, Nat.reduceBEq, Int.reduceEq, Int.reduceLT, Int.reduceLE, Int.reduceNeg, glo_0, glo_1, glo_2, glo_3, glo_4, glo_5, glo_6, glo_7, glo_8, konn_0, konq_0_0, konq_0_1, konq_0_2, konq_0_3, konq_0_4, konq_0_5, konq_0_6, konq_0_7, alt_0, alt_1, alt_2, alt_3, alt_4, alt_5, alt_6, alt_7, alt_8, exf_0, exf_1, exf_2, exf_3, exf_4, exf_5, c_PastError, c_NoName, c_NoState, c_HasCoins, c_NoVault, c_NoRow, c_Body, c_Walk, c_Vault, d_size_row, d_choice_table, d_coined, d_used, d_trace, d_cells, d_result, d_begin, d_deed_row, d_coin_count, d_row_count, d_many_cells, d_body_table, d_coins, d_held, d_cell_row, d_part, d_index, $ls,*])
local macro_rules
  | `(tactic| simp!) => `(tactic| simp (implicitDefEqProofs := false) (dsimp := false) (failIfUnchanged := false) only [lz1, z_ifT, z_ifF, k_c0, k_c1, k_c2, k_c3, k_c4, k_c5, k_c6, k_few0, k_fewS, k_lkm, k_pf0, k_pfh, k_pfm, k_cls, k_clsO, ks_nx, ks_rt, ks_bk, ks_ct, ks_xc, kl_nx, kl_rt, kl_bk, kl_ct, kl_xc, kc_nx, kc_rt, kc_xc, kt_nx, kt_rt, kt_bk, kt_ct, kt_xc, kh_nx, kh_rt, un_n, un_s, isNon_1, isNon_2, isNon_3, isNon_4, isNon_5, isNon_6, isNon_7, boolQ_1, intQ_1, optQ_1, lstQ_1, sqQ_1, sqQ_2, cntQ_1, cntQ_2, cntQ_3, dicQ_1, insQ_1, getIx_0, getIx_1, getIx_2, getIx_3, getIx_4, getIx_5, ixrQ_1, ixrQ_2, ixrQ_3, ixrQ_4, setIx_0, setIx_1, setIx_2, bindQ_nm, bindL_0, bindL_1, bindQ_tp, z_var, z_con, z_glo, z_bin, z_neg, z_cmp, z_chain, z_isN, z_notN, z_and, z_or, z_not, z_ife, z_call, z_make, methQ_1, z_meth, z_fld, z_pr, z_me, z_isi, z_idx, z_sli, z_abs0, z_tup, z_lst, z_dic, z_dcomp, z_fstr, z_efld, z_eisi, z_comp, z_Tcmp, z_Tchain, z_TisN, z_TnotN, z_Tand, z_Tor, z_Tnot, z_Ttv, z_nil, z_cons, z_Fnil, z_Fcons, z_Tsn, z_Ts1, z_rng1, int2Q_1, z_rng2, z_enm, z_zip, z_sq, z_Bnil, z_Bcons, z_asg, z_asgt, z_asg2, z_setf, z_seti, augQ_1, augQ_2, z_augn, z_augf, z_exp, z_ret, z_retN, z_if, z_for, z_whl, z_brk, z_cnt, z_pas, z_rais0, z_rais1, z_try, z_Hnil, z_Hcons, v_v0, v_vs, v_add, v_sub, v_mul, v_fdiv, v_mod, v_pow, v_sadd, v_tadd, v_ladd, v_lmul, v_int, v_intb, v_abs, v_max2, v_min2, v_stri, v_lens, v_lenm, v_len0, v_len1, v_len2, v_len3, v_len4, v_len5, v_len6, v_lenr, v_tupt, v_tupr, v_lstt, v_lstr, v_any, v_all, v_ixt, v_ixr, v_kon, v_seti, strQ_1, strQ_2, strQ_3, v_pts, v_ptn, v_sls, v_slt, v_slr, v_fld, v_setf, v_okl, v_oks, v_app, v_pop, v_lt, v_le, v_gt, v_ge, v_eq, v_ne, v_in, v_ni, v_eqii, v_eqss, v_eqbb, v_eqsi, v_eqis, v_eqni, v_eqin, v_eqns, v_eqsn, v_trn, v_trb, v_tri, v_trt, v_trr, v_trs, v_fms, v_fmi, v_inp, inrQ_1, inrQ_2, inrQ_3, v_inl, v_inK, v_ins, t_n, t_b, t_i, t_s, t_t, t_r, tyO_1, tyO_2, tyO_3, tyO_4, y_n, y_b, y_i, y_s, y_t, y_l, y_d, y_o, y_o1, y_o2, y_o3, y_o4, y_o5, y_o6, w_t, w_s, w_r, w_e, w_zs, w_zt, List.map_cons, List.map_nil, List.replicate_succ, List.replicate_zero, List.cons_append, List.nil_append, List.append_nil, List.set_cons_zero, List.set_cons_succ, List.any_cons, List.any_nil, List.lookup_cons_self, meT, reduceCtorEq, decide_true, decide_false, Bool.or_false, Bool.false_or, Bool.or_true, Bool.true_or, Bool.not_true, Bool.not_false, Bool.and_true, Bool.true_and, Bool.and_false, Bool.false_and, true_and, and_true, wipeE, Option.isSome_some, Option.isSome_none, List.getElem?_concat_length, Nat.reduceBEq, Int.reduceEq, Int.reduceLT, Int.reduceLE, Int.reduceNeg, glo_0, glo_1, glo_2, glo_3, glo_4, glo_5, glo_6, glo_7, glo_8, konn_0, konq_0_0, konq_0_1, konq_0_2, konq_0_3, konq_0_4, konq_0_5, konq_0_6, konq_0_7, alt_0, alt_1, alt_2, alt_3, alt_4, alt_5, alt_6, alt_7, alt_8, exf_0, exf_1, exf_2, exf_3, exf_4, exf_5, c_PastError, c_NoName, c_NoState, c_HasCoins, c_NoVault, c_NoRow, c_Body, c_Walk, c_Vault, d_size_row, d_choice_table, d_coined, d_used, d_trace, d_cells, d_result, d_begin, d_deed_row, d_coin_count, d_row_count, d_many_cells, d_body_table, d_coins, d_held, d_cell_row, d_part, d_index])
section
variable {sz : List Nat} {L : List Int} {sh ch hd fh th : Nat}
theorem LAt.setF {s : Store} {W : Wk} (A : LAt sz L sh ch hd fh th s W) (n : Nat) : LAt sz L sh ch hd fh th (s.set fh (.lst ((L.drop n).map D.int))) { W with used := n } := by
  obtain ⟨z, c, h, f, t, n1, n2, n3, n4, n5, n6, n7, n8, n9, n10⟩ := A
  exact ⟨get_set z (by omega), get_set c (by omega), get_set h (by omega), set_get f, get_set t (by omega), n1, n2, n3, n4, n5, n6, n7, n8, n9, n10⟩
def LawDo (sz : List Nat) (L : List Int) (sh ch hd fh th : Nat) (lv : Nat) (rec : List Rw → Wk → Res) (h : Nat) : Prop := ∀ (rows : List Rw) (depth loops : Nat) (W : Wk) (st : Store) (Q : QE) (X : QX), LAt sz L sh ch hd fh th st W → W.ok sz L → rowsOk h sz.length depth loops rows → W.trace.length + Rw.msts rows < 1000000 →
  (∀ s, K5 ch hd fh th st s → LAt sz L sh ch hd fh th s (rec rows W).2 → Q (ansD (rec rows W).1) s) → Call T lv n__law_do [.tup (Rw.ds rows), .ref sh, .ref ch, .ref hd, .ref fh, .ref th] st Q X
theorem lawdo (so : SzOk sz L) : ∀ (h k : Nat), LawDo sz L sh ch hd fh th (k + h + 10) (doRows sz L h) h := by
  intro h
  induction h with
  | zero =>
    intro k rows depth loops W st Q X A ok hr lt hq
    rw [show rows = [] from hr] at hq ⊢
    refine call_z f__law_do.fn rfl rfl ?_
    show wpB T (Call T (k + 0 + 9)) none b__law_do [some (.tup []), some (.ref sh), some (.ref ch), some (.ref hd), some (.ref fh), some (.ref th), none, none, none] st _
    unfold b__law_do
    simp!
    refine for_s (fun r env s => r = [] ∧ s = st) ⟨rfl, rfl⟩ (fun d r env s N ⟨e, _⟩ hN => by cases e) (fun env s ⟨_, e⟩ => ?_)
    simp!
    rw [e]
    exact hq st (.refl _ _ _ _ _) A
  | succ h ih =>
    intro k rows depth loops W st Q X A ok hr lt hq
    refine call_z f__law_do.fn rfl rfl ?_
    show wpB T (Call T (k + h + 10)) none b__law_do [some (.tup (Rw.ds rows)), some (.ref sh), some (.ref ch), some (.ref hd), some (.ref fh), some (.ref th), none, none, none] st _
    unfold b__law_do
    simp!
    have hq : ∀ s, K5 ch hd fh th st s → LAt sz L sh ch hd fh th s (rowsOf (stepRw sz L (doRows sz L h)) rows W).2 → Q (ansD (rowsOf (stepRw sz L (doRows sz L h)) rows W).1) s := hq
    refine for_s (fun r env s => ∃ (rs : List Rw) (W1 : Wk) (o1 o2 o3 : Option D), r = Rw.ds rs ∧ (∀ x ∈ rs, x ∈ rows) ∧ rowsOf (stepRw sz L (doRows sz L h)) rs W1 = rowsOf (stepRw sz L (doRows sz L h)) rows W ∧ K5 ch hd fh th st s ∧ LAt sz L sh ch hd fh th s W1 ∧ W1.ok sz L ∧ W1.trace.length + Rw.msts rs < 1000000 ∧ env = [some (.tup (Rw.ds rows)), some (.ref sh), some (.ref ch), some (.ref hd), some (.ref fh), some (.ref th), o1, o2, o3]) ⟨rows, W, none, none, none, rfl, fun _ m => m, rfl, .refl _ _ _ _ _, A, ok, lt, rfl⟩ (fun d r env s N ⟨rs, W1, o1, o2, o3, e1, e2, e3, e4, e5, e6, e7, e8⟩ hN => ?_) (fun env s ⟨rs, W1, o1, o2, o3, e1, e2, e3, e4, e5, e6, e7, e8⟩ => ?_)
    · subst e8
      cases rs with
      | nil => cases e1
      | cons x rs =>
        have e1 : d :: r = x.d :: Rw.ds rs := e1
        injection e1 with e1 e1'
        subst e1 e1'
        have xo := rowsOk_row hr (e2 x List.mem_cons_self)
        have e7 : W1.trace.length + (x.mst + Rw.msts rs) < 1000000 := e7
        have q1 := step_tr so (rec := doRows sz L h) (fun rows depth loops W h1 h2 => rows_tr so h rows depth loops W h1 h2) xo e6
        have q2 := step_ok so (rec := doRows sz L h) (fun rows depth loops W h1 h2 => rows_ok so h rows depth loops W h1 h2) xo e6
        rw [rowsOf_c] at e3
        have goon : ∀ (s2 : Store) (o1 o2 o3 : Option D), K5 ch hd fh th s s2 → LAt sz L sh ch hd fh th s2 (stepRw sz L (doRows sz L h) x W1).2 → (stepRw sz L (doRows sz L h) x W1).1 = none → N [some (.tup (Rw.ds rows)), some (.ref sh), some (.ref ch), some (.ref hd), some (.ref fh), some (.ref th), o1, o2, o3] s2 := fun s2 o1 o2 o3 k2 a2 n2 => by
          cases ea : stepRw sz L (doRows sz L h) x W1 with
          | mk a W2 =>
            rw [ea] at e3 q1 q2 a2 n2
            cases n2
            exact hN _ _ ⟨rs, W2, o1, o2, o3, rfl, fun y m => e2 y (List.mem_cons_of_mem _ m), e3, e4.trans k2, a2, q2, by dsimp only at q1; omega, rfl⟩
        have stop : ∀ (s2 : Store) (a : Int), K5 ch hd fh th s s2 → LAt sz L sh ch hd fh th s2 (stepRw sz L (doRows sz L h) x W1).2 → (stepRw sz L (doRows sz L h) x W1).1 = some a → Q (.int a) s2 := fun s2 a k2 a2 n2 => by
          cases ea : stepRw sz L (doRows sz L h) x W1 with
          | mk b W2 =>
            rw [ea] at e3 q1 q2 a2 n2
            cases n2
            rw [← e3] at hq
            exact hq s2 (e4.trans k2) a2
        cases x with
        | ans e =>
          have t1 : decide (wAns = ([97, 110, 115, 119, 101, 114] : List Nat)) = true := by decide
          simp! [Rw.d, t1]
          refine lawvalue 6 e xo (k + h + 3) hd W1.r s _ X e5.h e6.r ?_
          simp!
          exact stop s _ (.refl _ _ _ _ _) e5 rfl
        | keep g e =>
          have t1 : decide (wKeep = ([97, 110, 115, 119, 101, 114] : List Nat)) = false := by decide
          have t5 : decide (wKeep = ([107, 101, 101, 112] : List Nat)) = true := by decide
          simp! [Rw.d, t1, t5]
          refine lawvalue 6 e xo.2 (k + h + 3) hd W1.r s _ X e5.h e6.r ?_
          simp! [e5.h]
          refine ⟨lt_line (by simp [Rg.dc]), ?_⟩
          rw [Rg.putK (keepers_regs xo.1)]
          exact goon _ _ _ _ (K5.set hd _ (.inr (.inl rfl))) (e5.setH _) rfl
        | set c e =>
          have t1 : decide (wSet = ([97, 110, 115, 119, 101, 114] : List Nat)) = false := by decide
          have t2 : decide (wSet = ([107, 101, 101, 112] : List Nat)) = false := by decide
          have t3 : decide (wSet = ([99, 111, 105, 110] : List Nat)) = false := by decide
          have t4 : decide (wSet = ([105, 102] : List Nat)) = false := by decide
          have t5 : decide (wSet = ([116, 105, 109, 101, 115] : List Nat)) = false := by decide
          simp! [Rw.d, t1, t2, t3, t4, t5]
          refine lawstep (k := k + h + 2) so e5 e6 (.set c e) (rec := doRows sz L h) (h := h) (depth := depth) (loops := loops) xo (by have : (Rw.set c e).mst = 1 := rfl; omega) (.inl ⟨c, e, rfl⟩) fun s2 k2 a2 => ?_
          simp!
          exact goon _ _ _ _ k2 a2 rfl
        | read g c =>
          have t1 : decide (wRead = ([97, 110, 115, 119, 101, 114] : List Nat)) = false := by decide
          have t2 : decide (wRead = ([107, 101, 101, 112] : List Nat)) = false := by decide
          have t3 : decide (wRead = ([99, 111, 105, 110] : List Nat)) = false := by decide
          have t4 : decide (wRead = ([105, 102] : List Nat)) = false := by decide
          have t5 : decide (wRead = ([116, 105, 109, 101, 115] : List Nat)) = false := by decide
          simp! [Rw.d, t1, t2, t3, t4, t5]
          refine lawstep (k := k + h + 2) so e5 e6 (.read g c) (rec := doRows sz L h) (h := h) (depth := depth) (loops := loops) xo (by have : (Rw.read g c).mst = 1 := rfl; omega) (.inr (.inl ⟨g, c, rfl⟩)) fun s2 k2 a2 => ?_
          simp!
          exact goon _ _ _ _ k2 a2 rfl
        | swap g c e f =>
          have t1 : decide (wSwap = ([97, 110, 115, 119, 101, 114] : List Nat)) = false := by decide
          have t2 : decide (wSwap = ([107, 101, 101, 112] : List Nat)) = false := by decide
          have t3 : decide (wSwap = ([99, 111, 105, 110] : List Nat)) = false := by decide
          have t4 : decide (wSwap = ([105, 102] : List Nat)) = false := by decide
          have t5 : decide (wSwap = ([116, 105, 109, 101, 115] : List Nat)) = false := by decide
          simp! [Rw.d, t1, t2, t3, t4, t5]
          refine lawstep (k := k + h + 2) so e5 e6 (.swap g c e f) (rec := doRows sz L h) (h := h) (depth := depth) (loops := loops) xo (by have : (Rw.swap g c e f).mst = 1 := rfl; omega) (.inr (.inr ⟨g, c, e, f, rfl⟩)) fun s2 k2 a2 => ?_
          simp!
          exact goon _ _ _ _ k2 a2 (by show (if (W1.cells.getD c 0 : Int) = e.val W1.r then _ else _ : Res).1 = none; split <;> rfl)
        | coin g =>
          have t1 : decide (wCoin = ([97, 110, 115, 119, 101, 114] : List Nat)) = false := by decide
          have t2 : decide (wCoin = ([107, 101, 101, 112] : List Nat)) = false := by decide
          have t3 : decide (wCoin = ([99, 111, 105, 110] : List Nat)) = true := by decide
          have sq : stepRw sz L (doRows sz L h) (.coin g) W1 = (if W1.used = L.length then (some (-1), W1) else (none, { W1 with r := W1.r.put g (L.getD W1.used 0), used := W1.used + 1 })) := rfl
          have us := e6.used
          by_cases z : W1.used = L.length
          · rw [if_pos z] at sq
            have tl : decide ((((L.drop W1.used).map D.int).length : Int) = 0) = true := decide_eq_true (by rw [List.length_map, List.length_drop]; omega)
            simp! [Rw.d, t1, t2, t3, e5.f, tl]
            exact stop s (-1) (.refl _ _ _ _ _) (by rw [sq]; exact e5) (by rw [sq])
          · rw [if_neg z] at sq
            have lt : W1.used < L.length := by omega
            have gd : L.getD W1.used 0 = L[W1.used] := by rw [List.getD_eq_getElem?_getD, List.getElem?_eq_getElem lt]; rfl
            have tl : decide ((((L.drop W1.used).map D.int).length : Int) = 0) = false := decide_eq_false (by rw [List.length_map, List.length_drop]; omega)
            have ef := e5.f
            have dr : (L.drop W1.used).map D.int = .int (L.getD W1.used 0) :: (L.drop (W1.used + 1)).map D.int := by rw [List.drop_eq_getElem_cons lt, List.map_cons, gd]
            have pop : ∀ {F : QE}, meQ .pop (.ref fh) [.int 0] s F = F (.int (L.getD W1.used 0)) (s.set fh (.lst ((L.drop (W1.used + 1)).map D.int))) := fun {F} => by
              show (match s[fh]? with | some (.lst (x :: xs)) => (0 : Int) = 0 ∧ F x (s.set fh (.lst xs)) | _ => False) = _
              rw [ef, dr]
              exact propext ⟨fun h => h.2, fun h => ⟨rfl, h⟩⟩
            have A1 := e5.setF (W1.used + 1)
            have A2 := A1.setH (W1.r.put g (L.getD W1.used 0))
            have eh1 := A1.h
            simp! [Rw.d, t1, t2, t3, ef, tl, pop, eh1]
            refine ⟨lt_line (by simp [Rg.dc]), ?_⟩
            rw [Rg.putK (keepers_regs xo.1)]
            exact goon _ _ _ _ ((K5.set fh _ (.inr (.inr (.inl rfl)))).trans (K5.set hd _ (.inr (.inl rfl)))) (by rw [sq]; exact A2) (by rw [sq])
        | ife e a b =>
          have t1 : decide (wIf = ([97, 110, 115, 119, 101, 114] : List Nat)) = false := by decide
          have t2 : decide (wIf = ([107, 101, 101, 112] : List Nat)) = false := by decide
          have t3 : decide (wIf = ([99, 111, 105, 110] : List Nat)) = false := by decide
          have t4 : decide (wIf = ([105, 102] : List Nat)) = true := by decide
          have sq : stepRw sz L (doRows sz L h) (.ife e a b) W1 = (if e.val W1.r ≠ 0 then doRows sz L h a W1 else doRows sz L h b W1) := rfl
          have lt' : W1.trace.length + ((Rw.msts a + Rw.msts b) + Rw.msts rs) < 1000000 := e7
          simp! [Rw.d, t1, t2, t3, t4]
          refine lawvalue 6 e xo.1 (k + h + 3) hd W1.r s _ X e5.h e6.r ?_
          simp!
          by_cases z : e.val W1.r = 0
          · rw [if_neg (fun x => x z)] at sq
            have d1 : decide (e.val W1.r = 0) = true := decide_eq_true z
            have i1 : (2 + if true = true then (1 : Int) else 0) = 3 := rfl
            rw [d1, i1]
            simp!
            refine ih k b (depth + 1) loops W1 s _ X e5 e6 xo.2.2 (by omega) fun s2 k2 a2 => ?_
            cases ea : doRows sz L h b W1 with
            | mk o W2 =>
              rw [ea] at a2 sq
              cases o with
              | none =>
                simp! [ansD]
                exact goon _ _ _ _ k2 (by rw [sq]; exact a2) (by rw [sq])
              | some v =>
                simp! [ansD]
                exact stop s2 v k2 (by rw [sq]; exact a2) (by rw [sq])
          · rw [if_pos z] at sq
            have d1 : decide (e.val W1.r = 0) = false := decide_eq_false z
            have i1 : (2 + if false = true then (1 : Int) else 0) = 2 := rfl
            rw [d1, i1]
            simp!
            refine ih k a (depth + 1) loops W1 s _ X e5 e6 xo.2.1 (by omega) fun s2 k2 a2 => ?_
            cases ea : doRows sz L h a W1 with
            | mk o W2 =>
              rw [ea] at a2 sq
              cases o with
              | none =>
                simp! [ansD]
                exact goon _ _ _ _ k2 (by rw [sq]; exact a2) (by rw [sq])
              | some v =>
                simp! [ansD]
                exact stop s2 v k2 (by rw [sq]; exact a2) (by rw [sq])
        | times e a =>
          have t1 : decide (wTimes = ([97, 110, 115, 119, 101, 114] : List Nat)) = false := by decide
          have t2 : decide (wTimes = ([107, 101, 101, 112] : List Nat)) = false := by decide
          have t3 : decide (wTimes = ([99, 111, 105, 110] : List Nat)) = false := by decide
          have t4 : decide (wTimes = ([105, 102] : List Nat)) = false := by decide
          have t5 : decide (wTimes = ([116, 105, 109, 101, 115] : List Nat)) = true := by decide
          have sq : stepRw sz L (doRows sz L h) (.times e a) W1 = timesOf (doRows sz L h a) (e.val W1.r).toNat W1 := rfl
          have lt' : W1.trace.length + (9 * Rw.msts a + Rw.msts rs) < 1000000 := e7
          have v9 := Ex.val_ok e6.r xo.2.1
          simp! [Rw.d, t1, t2, t3, t4, t5]
          refine lawvalue 6 e xo.2.1 (k + h + 3) hd W1.r s _ X e5.h e6.r ?_
          simp!
          refine ⟨by omega, by omega, ?_⟩
          rw [rngD_rg]
          have n9 : (e.val W1.r).toNat ≤ 9 := by omega
          generalize (e.val W1.r).toNat = n at sq n9 ⊢
          have mn : n * Rw.msts a ≤ 9 * Rw.msts a := Nat.mul_le_mul_right _ n9
          refine for_s (fun r env s' => ∃ (i m : Nat) (W2 : Wk) (oa : Option Int) (o3 : Option D), r = rg i m ∧ (match oa with | none => timesOf (doRows sz L h a) m W2 | some v => (some v, W2)) = timesOf (doRows sz L h a) n W1 ∧ K5 ch hd fh th s s' ∧ LAt sz L sh ch hd fh th s' W2 ∧ W2.ok sz L ∧ (oa = none → W2.trace.length + m * Rw.msts a < 1000000) ∧ env = [some (.tup (Rw.ds rows)), some (.ref sh), some (.ref ch), some (.ref hd), some (.ref fh), some (.ref th), some (.tup [.str wTimes, e.d, .tup (Rw.ds a)]), some (ansD oa), o3]) ⟨0, n, W1, none, o3, rfl, rfl, .refl _ _ _ _ _, e5, e6, fun _ => by omega, rfl⟩ (fun d' r' env s' N' ⟨i, m, W2, oa, q3, b1, b2, b3, b4, b5, b6, b7⟩ hN' => ?_) (fun env s' ⟨i, m, W2, oa, q3, b1, b2, b3, b4, b5, b6, b7⟩ => ?_)
          · subst b7
            cases m with
            | zero => cases b1
            | succ m =>
              rw [rg_succ] at b1
              cases b1
              cases oa with
              | some v =>
                simp! [ansD]
                exact hN' _ _ ⟨i + 1, m, W2, some v, _, rfl, b2, b3, b4, b5, fun z => (by cases z), rfl⟩
              | none =>
                have b6 := b6 rfl
                rw [Nat.succ_mul] at b6
                have tr := rows_tr so h a (depth + 1) (loops + 1) W2 xo.2.2 b5
                have ro := rows_ok so h a (depth + 1) (loops + 1) W2 xo.2.2 b5
                have b2 : timesOf (doRows sz L h a) (m + 1) W2 = timesOf (doRows sz L h a) n W1 := b2
                rw [timesOf_s] at b2
                simp! [ansD]
                refine ih k a (depth + 1) (loops + 1) W2 s' _ X b4 b5 xo.2.2 (by omega) fun s2 k2 a2 => ?_
                cases ea : doRows sz L h a W2 with
                | mk o W3 =>
                  rw [ea] at a2 b2 tr ro
                  simp!
                  refine hN' _ _ ⟨i + 1, m, W3, o, _, rfl, ?_, b3.trans k2, a2, ro, fun z => ?_, rfl⟩
                  · cases o with
                    | none => exact b2
                    | some v => exact b2
                  · have := tr.1
                    dsimp only at this
                    omega
          · subst b7
            cases m with
            | succ m => rw [rg_succ] at b1; cases b1
            | zero =>
              rw [← sq] at b2
              cases oa with
              | none =>
                simp! [ansD]
                exact goon _ _ _ _ b3 (by rw [← b2]; exact b4) (by rw [← b2]; rfl)
              | some v =>
                simp! [ansD]
                exact stop s' v b3 (by rw [← b2]; exact b4) (by rw [← b2])
    · subst e8
      cases rs with
      | cons x rs => cases e1
      | nil =>
        rw [← e3] at hq
        simp!
        exact hq s e4 e5
end
end Y.K_k12
set_option linter.all false
set_option maxHeartbeats 1600000
set_option maxRecDepth 100000
namespace Y.K_k12
open Y PySem
local macro_rules
  | `(tactic| simp! [$ls,*]) => `(tactic| simp (implicitDefEqProofs := false) (dsimp := false) (failIfUnchanged := false) only [lz1, z_ifT, z_ifF, k_c0, k_c1, k_c2, k_c3, k_c4, k_c5, k_c6, k_few0, k_fewS, k_lkm, k_pf0, k_pfh, k_pfm, k_cls, k_clsO, ks_nx, ks_rt, ks_bk, ks_ct, ks_xc, kl_nx, kl_rt, kl_bk, kl_ct, kl_xc, kc_nx, kc_rt, kc_xc, kt_nx, kt_rt, kt_bk, kt_ct, kt_xc, kh_nx, kh_rt, un_n, un_s, isNon_1, isNon_2, isNon_3, isNon_4, isNon_5, isNon_6, isNon_7, boolQ_1, intQ_1, optQ_1, lstQ_1, sqQ_1, sqQ_2, cntQ_1, cntQ_2, cntQ_3, dicQ_1, insQ_1, getIx_0, getIx_1, getIx_2, getIx_3, getIx_4, getIx_5, ixrQ_1, ixrQ_2, ixrQ_3, ixrQ_4, setIx_0, setIx_1, setIx_2, bindQ_nm, bindL_0, bindL_1, bindQ_tp, z_var, z_con, z_glo, z_bin, z_neg, z_cmp, z_chain, z_isN, z_notN, z_and, z_or, z_not, z_ife, z_call, z_make, methQ_1, z_meth, z_fld, z_pr, z_me, z_isi, z_idx, z_sli, z_abs0, z_tup, z_lst, z_dic, z_dcomp, z_fstr, z_efld, z_eisi, z_comp, z_Tcmp, z_Tchain, z_TisN, z_TnotN, z_Tand, z_Tor, z_Tnot, z_Ttv, z_nil, z_cons, z_Fnil, z_Fcons, z_Tsn, z_Ts1, z_rng1, int2Q_1, z_rng2, z_enm, z_zip, z_sq, z_Bnil, z_Bcons, z_asg, z_asgt, z_asg2, z_setf, z_seti, augQ_1, augQ_2, z_augn, z_augf, z_exp, z_ret, z_retN, z_if, z_for, z_whl, z_brk, z_cnt, z_pas, z_rais0, z_rais1, z_try, z_Hnil, z_Hcons, v_v0, v_vs, v_add, v_sub, v_mul, v_fdiv, v_mod, v_pow, v_sadd, v_tadd, v_ladd, v_lmul, v_int, v_intb, v_abs, v_max2, v_min2, v_stri, v_lens, v_lenm, v_len0, v_len1, v_len2, v_len3, v_len4, v_len5, v_len6, v_lenr, v_tupt, v_tupr, v_lstt, v_lstr, v_any, v_all, v_ixt, v_ixr, v_kon, v_seti, strQ_1, strQ_2, strQ_3, v_pts, v_ptn, v_sls, v_slt, v_slr, v_fld, v_setf, v_okl, v_oks, v_app, v_pop, v_lt, v_le, v_gt, v_ge, v_eq, v_ne, v_in, v_ni, v_eqii, v_eqss, v_eqbb, v_eqsi, v_eqis, v_eqni, v_eqin, v_eqns, v_eqsn, v_trn, v_trb, v_tri, v_trt, v_trr, v_trs, v_fms, v_fmi, v_inp, inrQ_1, inrQ_2, inrQ_3, v_inl, v_inK, v_ins, t_n, t_b, t_i, t_s, t_t, t_r, tyO_1, tyO_2, tyO_3, tyO_4, y_n, y_b, y_i, y_s, y_t, y_l, y_d, y_o, y_o1, y_o2, y_o3, y_o4, y_o5, y_o6, w_t, w_s, w_r, w_e, w_zs, w_zt, List.map_cons, List.map_nil, List.replicate_succ, List.replicate_zero, List.cons_append, List.nil_append, List.append_nil, List.set_cons_zero, List.set_cons_succ, List.any_cons, List.any_nil, List.lookup_cons_self, meT, reduceCtorEq, decide_true, decide_false, Bool.or_false, Bool.false_or, Bool.or_true, Bool.true_or, Bool.not_true, Bool.not_false, Bool.and_true, Bool.true_and, Bool.and_false, Bool.false_and, true_and, and_true, wipeE, Option.isSome_some, Option.isSome_none, List.getElem?_concat_length, Nat.reduceBEq, Int.reduceEq, Int.reduceLT, Int.reduceLE, Int.reduceNeg, glo_0, glo_1, glo_2, glo_3, glo_4, glo_5, glo_6, glo_7, glo_8, konn_0, konq_0_0, konq_0_1, konq_0_2, konq_0_3, konq_0_4, konq_0_5, konq_0_6, konq_0_7, alt_0, alt_1, alt_2, alt_3, alt_4, alt_5, alt_6, alt_7, alt_8, exf_0, exf_1, exf_2, exf_3, exf_4, exf_5, c_PastError, c_NoName, c_NoState, c_HasCoins, c_NoVault, c_NoRow, c_Body, c_Walk, c_Vault, d_size_row, d_choice_table, d_coined, d_used, d_trace, d_cells, d_result, d_begin, d_deed_row, d_coin_count, d_row_count, d_many_cells, d_body_table, d_coins, d_held, d_cell_row, d_part, d_index, $ls,*])
local macro_rules
  | `(tactic| simp!) => `(tactic| simp (implicitDefEqProofs := false) (dsimp := false) (failIfUnchanged := false) only [lz1, z_ifT, z_ifF, k_c0, k_c1, k_c2, k_c3, k_c4, k_c5, k_c6, k_few0, k_fewS, k_lkm, k_pf0, k_pfh, k_pfm, k_cls, k_clsO, ks_nx, ks_rt, ks_bk, ks_ct, ks_xc, kl_nx, kl_rt, kl_bk, kl_ct, kl_xc, kc_nx, kc_rt, kc_xc, kt_nx, kt_rt, kt_bk, kt_ct, kt_xc, kh_nx, kh_rt, un_n, un_s, isNon_1, isNon_2, isNon_3, isNon_4, isNon_5, isNon_6, isNon_7, boolQ_1, intQ_1, optQ_1, lstQ_1, sqQ_1, sqQ_2, cntQ_1, cntQ_2, cntQ_3, dicQ_1, insQ_1, getIx_0, getIx_1, getIx_2, getIx_3, getIx_4, getIx_5, ixrQ_1, ixrQ_2, ixrQ_3, ixrQ_4, setIx_0, setIx_1, setIx_2, bindQ_nm, bindL_0, bindL_1, bindQ_tp, z_var, z_con, z_glo, z_bin, z_neg, z_cmp, z_chain, z_isN, z_notN, z_and, z_or, z_not, z_ife, z_call, z_make, methQ_1, z_meth, z_fld, z_pr, z_me, z_isi, z_idx, z_sli, z_abs0, z_tup, z_lst, z_dic, z_dcomp, z_fstr, z_efld, z_eisi, z_comp, z_Tcmp, z_Tchain, z_TisN, z_TnotN, z_Tand, z_Tor, z_Tnot, z_Ttv, z_nil, z_cons, z_Fnil, z_Fcons, z_Tsn, z_Ts1, z_rng1, int2Q_1, z_rng2, z_enm, z_zip, z_sq, z_Bnil, z_Bcons, z_asg, z_asgt, z_asg2, z_setf, z_seti, augQ_1, augQ_2, z_augn, z_augf, z_exp, z_ret, z_retN, z_if, z_for, z_whl, z_brk, z_cnt, z_pas, z_rais0, z_rais1, z_try, z_Hnil, z_Hcons, v_v0, v_vs, v_add, v_sub, v_mul, v_fdiv, v_mod, v_pow, v_sadd, v_tadd, v_ladd, v_lmul, v_int, v_intb, v_abs, v_max2, v_min2, v_stri, v_lens, v_lenm, v_len0, v_len1, v_len2, v_len3, v_len4, v_len5, v_len6, v_lenr, v_tupt, v_tupr, v_lstt, v_lstr, v_any, v_all, v_ixt, v_ixr, v_kon, v_seti, strQ_1, strQ_2, strQ_3, v_pts, v_ptn, v_sls, v_slt, v_slr, v_fld, v_setf, v_okl, v_oks, v_app, v_pop, v_lt, v_le, v_gt, v_ge, v_eq, v_ne, v_in, v_ni, v_eqii, v_eqss, v_eqbb, v_eqsi, v_eqis, v_eqni, v_eqin, v_eqns, v_eqsn, v_trn, v_trb, v_tri, v_trt, v_trr, v_trs, v_fms, v_fmi, v_inp, inrQ_1, inrQ_2, inrQ_3, v_inl, v_inK, v_ins, t_n, t_b, t_i, t_s, t_t, t_r, tyO_1, tyO_2, tyO_3, tyO_4, y_n, y_b, y_i, y_s, y_t, y_l, y_d, y_o, y_o1, y_o2, y_o3, y_o4, y_o5, y_o6, w_t, w_s, w_r, w_e, w_zs, w_zt, List.map_cons, List.map_nil, List.replicate_succ, List.replicate_zero, List.cons_append, List.nil_append, List.append_nil, List.set_cons_zero, List.set_cons_succ, List.any_cons, List.any_nil, List.lookup_cons_self, meT, reduceCtorEq, decide_true, decide_false, Bool.or_false, Bool.false_or, Bool.or_true, Bool.true_or, Bool.not_true, Bool.not_false, Bool.and_true, Bool.true_and, Bool.and_false, Bool.false_and, true_and, and_true, wipeE, Option.isSome_some, Option.isSome_none, List.getElem?_concat_length, Nat.reduceBEq, Int.reduceEq, Int.reduceLT, Int.reduceLE, Int.reduceNeg, glo_0, glo_1, glo_2, glo_3, glo_4, glo_5, glo_6, glo_7, glo_8, konn_0, konq_0_0, konq_0_1, konq_0_2, konq_0_3, konq_0_4, konq_0_5, konq_0_6, konq_0_7, alt_0, alt_1, alt_2, alt_3, alt_4, alt_5, alt_6, alt_7, alt_8, exf_0, exf_1, exf_2, exf_3, exf_4, exf_5, c_PastError, c_NoName, c_NoState, c_HasCoins, c_NoVault, c_NoRow, c_Body, c_Walk, c_Vault, d_size_row, d_choice_table, d_coined, d_used, d_trace, d_cells, d_result, d_begin, d_deed_row, d_coin_count, d_row_count, d_many_cells, d_body_table, d_coins, d_held, d_cell_row, d_part, d_index])
theorem filter_none : ∀ {xs : List Dd} {n : List Nat}, n ∉ xs.map (·.nm) → xs.filter (fun y => decide (y.nm = n)) = []
  | [], _, _ => rfl
  | y :: xs, n, h => by
    rw [List.map_cons, List.mem_cons, not_or] at h
    rw [List.filter_cons_of_neg (by simpa using fun e => h.1 e.symm)]
    exact filter_none h.2
theorem filter_one : ∀ {xs : List Dd} {x : Dd}, (xs.map (·.nm)).Nodup → x ∈ xs → xs.filter (fun y => decide (y.nm = x.nm)) = [x]
  | [], _, _, h => by cases h
  | y :: xs, x, nd, h => by
    rw [List.map_cons, List.nodup_cons] at nd
    rcases List.mem_cons.mp h with z | z
    · subst z
      rw [List.filter_cons_of_pos (by simp), filter_none nd.1]
    · have ne : ¬ y.nm = x.nm := fun e => nd.1 (by rw [e]; exact List.mem_map.mpr ⟨x, z, rfl⟩)
      rw [List.filter_cons_of_neg (by simpa using ne)]
      exact filter_one nd.2 z
theorem lawcall {k ch dh fh n : Nat} {V : Vt} {x : Dd} {L : List Int} {s : List Nat} {st : Store} {Q : QE} {X : QX} (vok : V.ok) (sto : V.st s) (cal : CallOf V x n) (hL : ∀ c ∈ L, c = 0 ∨ c = 1) (ec : st[ch]? = some (.lst (V.cells.map cellD))) (ed : st[dh]? = some (.lst (V.deeds.map Dd.d))) (ef : st[fh]? = some (.lst (L.map D.int)))
    (hq : ∀ s' th, Keep st s' → st.length ≤ th → s'[th]? = some (.lst (runW V L s x n).2.trace) → Q (.tup [.int (ansOf (runW V L s x n)), .tup ((runW V L s x n).2.cells.map natD), .ref th, .int ((L.length : Int) - ((L.drop (runW V L s x n).2.used).length : Int))]) s') : Call T (k + 23) n__law_call [.ref ch, .ref dh, stD s, calD x n, .ref fh] st Q X := by
  refine call_z f__law_call.fn rfl rfl ?_
  show wpB T (Call T (k + 22)) none b__law_call [some (.ref ch), some (.ref dh), some (stD s), some (calD x n), some (.ref fh), none, none, none, none, none, none, none, none, none] st _
  unfold b__law_call
  simp! [ec]
  refine cmp_map (f := cellD) (F := fun c : Nat × Nat => .int c.1) ec (by have := vok.c6; omega) (fun e s P h => ?_) (fun c hc t Q' kp hQ => ?_) ?_
  · simp!
    exact h
  · simp! [cellD]
    exact hQ
  have ed1 := get_app [.lst (V.cells.map fun c : Nat × Nat => D.int c.1)] ed
  simp! [calD, ed1]
  refine cmp_l (ds := V.deeds.map Dd.d) (fun r acc t => ∃ (as bs : List Dd), V.deeds = as ++ bs ∧ r = bs.map Dd.d ∧ acc = (as.filter (fun y => decide (y.nm = x.nm))).map (fun y => D.tup (Rw.ds y.rows)) ∧ t = st ++ [.lst (V.cells.map fun c : Nat × Nat => D.int c.1)] ++ [.lst acc]) ⟨[], V.deeds, rfl, rfl, rfl, rfl⟩ (fun r acc t ⟨as, bs, e1, e2, e3, e4⟩ => by rw [e4, get_app _ ed1]; rfl) (fun d r acc t N ⟨as, bs, e1, e2, e3, e4⟩ hN => ?_) (fun acc t ⟨as, bs, e1, e2, e3, e4⟩ => ?_)
  · subst e4
    cases bs with
    | nil => cases e2
    | cons y bs =>
      cases e2
      have al : (as.filter (fun y => decide (y.nm = x.nm))).length ≤ as.length := List.length_filter_le _ _
      have xl : as.length ≤ 8 := by
        have := vok.d8
        rw [e1, List.length_append] at this
        omega
      simp! [Dd.d]
      refine ifd (fun z => ?_) (fun z => ?_)
      · have z : y.nm = x.nm := by simpa using z
        simp! [Dd.d, get_snoc, set_last]
        refine ⟨lt_line (by rw [e3, List.length_map]; omega), hN _ _ ⟨as ++ [y], bs, by rw [e1]; simp, rfl, ?_, rfl⟩⟩
        rw [List.filter_append, List.filter_cons_of_pos (by simpa using z), List.map_append, e3]
        rfl
      · have z : ¬ y.nm = x.nm := by simpa using z
        simp!
        refine hN _ _ ⟨as ++ [y], bs, by rw [e1]; simp, rfl, ?_, rfl⟩
        rw [List.filter_append, List.filter_cons_of_neg (by simpa using z), List.map_append, e3]
        simp
  · cases bs with
    | cons y bs => cases e2
    | nil =>
      rw [List.append_nil] at e1
      rw [← e1, filter_one vok.nd cal.mem] at e3
      have e3 : acc = [D.tup (Rw.ds x.rows)] := e3
      subst e3 e4
      have sze : (V.cells.map fun c : Nat × Nat => D.int c.1) = V.sz.map natD := by unfold Vt.sz; rw [List.map_map]; rfl
      rw [sze]
      have ez := get_snoc2 st [O.lst [.tup (Rw.ds x.rows)]] (O.lst (V.sz.map natD))
      have ey := get_snoc (st ++ [O.lst (V.sz.map natD)]) (O.lst [.tup (Rw.ds x.rows)])
      have ef2 := get_app [O.lst [.tup (Rw.ds x.rows)]] (get_app [O.lst (V.sz.map natD)] ef)
      have kp2 : Keep st (st ++ [O.lst (V.sz.map natD)] ++ [O.lst [.tup (Rw.ds x.rows)]]) := (Keep.new _ _).app _
      have len2 : (st ++ [O.lst (V.sz.map natD)] ++ [O.lst [.tup (Rw.ds x.rows)]]).length = st.length + 2 := by simp
      generalize st ++ [O.lst (V.sz.map natD)] ++ [O.lst [.tup (Rw.ds x.rows)]] = t2 at ez ey ef2 kp2 len2 ⊢
      have disp : ∀ {F : QE}, dispQ (t2 ++ [O.dic []]) t2.length [.str [97], .int 0, .str [98], .int 0, .str [99], .int 0, .str [100], .int 0, .str [120], .int n] F = F (.ref t2.length) (t2 ++ [O.dic (startW s n).r.dc]) := fun {F} => by
        unfold dispQ
        rw [get_snoc]
        show (_ ∧ _ ∧ F _ ((t2 ++ [O.dic []]).set t2.length (.dic (mergeD _)))) = _
        rw [set_last]
        exact propext ⟨fun h => h.2.2, fun h => ⟨rfl, (show (5 : Nat) ≤ 15 by decide), h⟩⟩
      have ef4 := get_app [O.lst (s.map fun n : Nat => D.int n)] (get_app [O.dic (startW s n).r.dc] ef2)
      simp! [ey, disp, stD, ef4]
      have h1 : (t2 ++ [O.dic (startW s n).r.dc]).length = t2.length + 1 := by simp
      have h2 : (t2 ++ [O.dic (startW s n).r.dc] ++ [O.lst (s.map fun n : Nat => D.int n)]).length = t2.length + 2 := by simp
      have h3 : (t2 ++ [O.dic (startW s n).r.dc] ++ [O.lst (s.map fun n : Nat => D.int n)] ++ [O.lst (L.map D.int)]).length = t2.length + 3 := by simp
      have zc := get_app [O.lst []] (get_app [O.lst (L.map D.int)] (h1 ▸ get_snoc (t2 ++ [O.dic (startW s n).r.dc]) (O.lst (s.map fun n : Nat => D.int n))))
      have zh := get_app [O.lst []] (get_app [O.lst (L.map D.int)] (get_snoc2 t2 [O.lst (s.map fun n : Nat => D.int n)] (O.dic (startW s n).r.dc)))
      have zf := get_app [O.lst []] (h2 ▸ get_snoc (t2 ++ [O.dic (startW s n).r.dc] ++ [O.lst (s.map fun n : Nat => D.int n)]) (O.lst (L.map D.int)))
      have zt := h3 ▸ get_snoc (t2 ++ [O.dic (startW s n).r.dc] ++ [O.lst (s.map fun n : Nat => D.int n)] ++ [O.lst (L.map D.int)]) (O.lst [])
      have kp5 := (((kp2.app [O.dic (startW s n).r.dc]).app [O.lst (s.map fun n : Nat => D.int n)]).app [O.lst (L.map D.int)]).app [O.lst []]
      have zz := get_app [O.lst []] (get_app [O.lst (L.map D.int)] (get_app [O.lst (s.map fun n : Nat => D.int n)] (get_app [O.dic (startW s n).r.dc] ez)))
      rw [h1, h2, h3]
      generalize t2 ++ [O.dic (startW s n).r.dc] ++ [O.lst (s.map fun n : Nat => D.int n)] ++ [O.lst (L.map D.int)] ++ [O.lst []] = t5 at zc zh zf zt zz kp5 ⊢
      have A : LAt V.sz L st.length (t2.length + 1) t2.length (t2.length + 2) (t2.length + 3) t5 (startW s n) := ⟨zz, zc, zh, zf, zt, by omega⟩
      have n9 : n ≤ 9 := by have := (vok.deed x cal.mem).hi; have := cal.lt; omega
      have so := V_so vok hL
      have ro : rowsOk 12 V.sz.length 1 0 x.rows := by rw [V_szlen]; exact (vok.deed x cal.mem).rows
      have ml := mst_le 12 ro (by decide)
      have szl := (vok.deed x cal.mem).size
      have wok := startW_ok vok (L := L) sto n9
      refine lawdo so 12 k x.rows 1 0 _ t5 _ _ A wok ro (by show 0 + _ < _; have : 9 ^ (2 - 0) * Rw.sizes x.rows ≤ 81 * 2000 := Nat.mul_le_mul (by decide) szl; omega) fun s6 k6 A6 => ?_
      have kp6 : Keep st s6 := ⟨Nat.le_trans kp5.len k6.len, fun g l => (k6.same g (by omega) (by omega) (by omega) (by omega) (by have := kp5.len; omega)).trans (kp5.same g l)⟩
      have ef6 := kp6.get ef
      have e0 : doRows V.sz L 12 x.rows (startW s n) = runW V L s x n := rfl
      rw [e0] at A6 ⊢
      have hq' := hq s6 (t2.length + 3) kp6 (by omega) A6.t
      cases ea : (runW V L s x n).1 with
      | none =>
        have an : ansOf (runW V L s x n) = 0 := by unfold ansOf; rw [ea]
        rw [an] at hq'
        simp! [ansD, A6.c, A6.f, ef6, List.length_map]
        exact hq'
      | some a =>
        have an : ansOf (runW V L s x n) = a := by unfold ansOf; rw [ea]
        rw [an] at hq'
        simp! [ansD, A6.c, A6.f, ef6, List.length_map]
        exact hq'
end Y.K_k12
set_option linter.all false
set_option maxHeartbeats 1600000
set_option maxRecDepth 100000
namespace Y.K_k12
open Y PySem
local macro_rules
  | `(tactic| simp! [$ls,*]) => `(tactic| simp (implicitDefEqProofs := false) (dsimp := false) (failIfUnchanged := false) only [lz1, z_ifT, z_ifF, k_c0, k_c1, k_c2, k_c3, k_c4, k_c5, k_c6, k_few0, k_fewS, k_lkm, k_pf0, k_pfh, k_pfm, k_cls, k_clsO, ks_nx, ks_rt, ks_bk, ks_ct, ks_xc, kl_nx, kl_rt, kl_bk, kl_ct, kl_xc, kc_nx, kc_rt, kc_xc, kt_nx, kt_rt, kt_bk, kt_ct, kt_xc, kh_nx, kh_rt, un_n, un_s, isNon_1, isNon_2, isNon_3, isNon_4, isNon_5, isNon_6, isNon_7, boolQ_1, intQ_1, optQ_1, lstQ_1, sqQ_1, sqQ_2, cntQ_1, cntQ_2, cntQ_3, dicQ_1, insQ_1, getIx_0, getIx_1, getIx_2, getIx_3, getIx_4, getIx_5, ixrQ_1, ixrQ_2, ixrQ_3, ixrQ_4, setIx_0, setIx_1, setIx_2, bindQ_nm, bindL_0, bindL_1, bindQ_tp, z_var, z_con, z_glo, z_bin, z_neg, z_cmp, z_chain, z_isN, z_notN, z_and, z_or, z_not, z_ife, z_call, z_make, methQ_1, z_meth, z_fld, z_pr, z_me, z_isi, z_idx, z_sli, z_abs0, z_tup, z_lst, z_dic, z_dcomp, z_fstr, z_efld, z_eisi, z_comp, z_Tcmp, z_Tchain, z_TisN, z_TnotN, z_Tand, z_Tor, z_Tnot, z_Ttv, z_nil, z_cons, z_Fnil, z_Fcons, z_Tsn, z_Ts1, z_rng1, int2Q_1, z_rng2, z_enm, z_zip, z_sq, z_Bnil, z_Bcons, z_asg, z_asgt, z_asg2, z_setf, z_seti, augQ_1, augQ_2, z_augn, z_augf, z_exp, z_ret, z_retN, z_if, z_for, z_whl, z_brk, z_cnt, z_pas, z_rais0, z_rais1, z_try, z_Hnil, z_Hcons, v_v0, v_vs, v_add, v_sub, v_mul, v_fdiv, v_mod, v_pow, v_sadd, v_tadd, v_ladd, v_lmul, v_int, v_intb, v_abs, v_max2, v_min2, v_stri, v_lens, v_lenm, v_len0, v_len1, v_len2, v_len3, v_len4, v_len5, v_len6, v_lenr, v_tupt, v_tupr, v_lstt, v_lstr, v_any, v_all, v_ixt, v_ixr, v_kon, v_seti, strQ_1, strQ_2, strQ_3, v_pts, v_ptn, v_sls, v_slt, v_slr, v_fld, v_setf, v_okl, v_oks, v_app, v_pop, v_lt, v_le, v_gt, v_ge, v_eq, v_ne, v_in, v_ni, v_eqii, v_eqss, v_eqbb, v_eqsi, v_eqis, v_eqni, v_eqin, v_eqns, v_eqsn, v_trn, v_trb, v_tri, v_trt, v_trr, v_trs, v_fms, v_fmi, v_inp, inrQ_1, inrQ_2, inrQ_3, v_inl, v_inK, v_ins, t_n, t_b, t_i, t_s, t_t, t_r, tyO_1, tyO_2, tyO_3, tyO_4, y_n, y_b, y_i, y_s, y_t, y_l, y_d, y_o, y_o1, y_o2, y_o3, y_o4, y_o5, y_o6, w_t, w_s, w_r, w_e, w_zs, w_zt, List.map_cons, List.map_nil, List.replicate_succ, List.replicate_zero, List.cons_append, List.nil_append, List.append_nil, List.set_cons_zero, List.set_cons_succ, List.any_cons, List.any_nil, List.lookup_cons_self, meT, reduceCtorEq, decide_true, decide_false, Bool.or_false, Bool.false_or, Bool.or_true, Bool.true_or, Bool.not_true, Bool.not_false, Bool.and_true, Bool.true_and, Bool.and_false, Bool.false_and, true_and, and_true, wipeE, Option.isSome_some, Option.isSome_none, List.getElem?_concat_length, Nat.reduceBEq, Int.reduceEq, Int.reduceLT, Int.reduceLE, Int.reduceNeg, glo_0, glo_1, glo_2, glo_3, glo_4, glo_5, glo_6, glo_7, glo_8, konn_0, konq_0_0, konq_0_1, konq_0_2, konq_0_3, konq_0_4, konq_0_5, konq_0_6, konq_0_7, alt_0, alt_1, alt_2, alt_3, alt_4, alt_5, alt_6, alt_7, alt_8, exf_0, exf_1, exf_2, exf_3, exf_4, exf_5, c_PastError, c_NoName, c_NoState, c_HasCoins, c_NoVault, c_NoRow, c_Body, c_Walk, c_Vault, d_size_row, d_choice_table, d_coined, d_used, d_trace, d_cells, d_result, d_begin, d_deed_row, d_coin_count, d_row_count, d_many_cells, d_body_table, d_coins, d_held, d_cell_row, d_part, d_index, $ls,*])
local macro_rules
  | `(tactic| simp!) => `(tactic| simp (implicitDefEqProofs := false) (dsimp := false) (failIfUnchanged := false) only [lz1, z_ifT, z_ifF, k_c0, k_c1, k_c2, k_c3, k_c4, k_c5, k_c6, k_few0, k_fewS, k_lkm, k_pf0, k_pfh, k_pfm, k_cls, k_clsO, ks_nx, ks_rt, ks_bk, ks_ct, ks_xc, kl_nx, kl_rt, kl_bk, kl_ct, kl_xc, kc_nx, kc_rt, kc_xc, kt_nx, kt_rt, kt_bk, kt_ct, kt_xc, kh_nx, kh_rt, un_n, un_s, isNon_1, isNon_2, isNon_3, isNon_4, isNon_5, isNon_6, isNon_7, boolQ_1, intQ_1, optQ_1, lstQ_1, sqQ_1, sqQ_2, cntQ_1, cntQ_2, cntQ_3, dicQ_1, insQ_1, getIx_0, getIx_1, getIx_2, getIx_3, getIx_4, getIx_5, ixrQ_1, ixrQ_2, ixrQ_3, ixrQ_4, setIx_0, setIx_1, setIx_2, bindQ_nm, bindL_0, bindL_1, bindQ_tp, z_var, z_con, z_glo, z_bin, z_neg, z_cmp, z_chain, z_isN, z_notN, z_and, z_or, z_not, z_ife, z_call, z_make, methQ_1, z_meth, z_fld, z_pr, z_me, z_isi, z_idx, z_sli, z_abs0, z_tup, z_lst, z_dic, z_dcomp, z_fstr, z_efld, z_eisi, z_comp, z_Tcmp, z_Tchain, z_TisN, z_TnotN, z_Tand, z_Tor, z_Tnot, z_Ttv, z_nil, z_cons, z_Fnil, z_Fcons, z_Tsn, z_Ts1, z_rng1, int2Q_1, z_rng2, z_enm, z_zip, z_sq, z_Bnil, z_Bcons, z_asg, z_asgt, z_asg2, z_setf, z_seti, augQ_1, augQ_2, z_augn, z_augf, z_exp, z_ret, z_retN, z_if, z_for, z_whl, z_brk, z_cnt, z_pas, z_rais0, z_rais1, z_try, z_Hnil, z_Hcons, v_v0, v_vs, v_add, v_sub, v_mul, v_fdiv, v_mod, v_pow, v_sadd, v_tadd, v_ladd, v_lmul, v_int, v_intb, v_abs, v_max2, v_min2, v_stri, v_lens, v_lenm, v_len0, v_len1, v_len2, v_len3, v_len4, v_len5, v_len6, v_lenr, v_tupt, v_tupr, v_lstt, v_lstr, v_any, v_all, v_ixt, v_ixr, v_kon, v_seti, strQ_1, strQ_2, strQ_3, v_pts, v_ptn, v_sls, v_slt, v_slr, v_fld, v_setf, v_okl, v_oks, v_app, v_pop, v_lt, v_le, v_gt, v_ge, v_eq, v_ne, v_in, v_ni, v_eqii, v_eqss, v_eqbb, v_eqsi, v_eqis, v_eqni, v_eqin, v_eqns, v_eqsn, v_trn, v_trb, v_tri, v_trt, v_trr, v_trs, v_fms, v_fmi, v_inp, inrQ_1, inrQ_2, inrQ_3, v_inl, v_inK, v_ins, t_n, t_b, t_i, t_s, t_t, t_r, tyO_1, tyO_2, tyO_3, tyO_4, y_n, y_b, y_i, y_s, y_t, y_l, y_d, y_o, y_o1, y_o2, y_o3, y_o4, y_o5, y_o6, w_t, w_s, w_r, w_e, w_zs, w_zt, List.map_cons, List.map_nil, List.replicate_succ, List.replicate_zero, List.cons_append, List.nil_append, List.append_nil, List.set_cons_zero, List.set_cons_succ, List.any_cons, List.any_nil, List.lookup_cons_self, meT, reduceCtorEq, decide_true, decide_false, Bool.or_false, Bool.false_or, Bool.or_true, Bool.true_or, Bool.not_true, Bool.not_false, Bool.and_true, Bool.true_and, Bool.and_false, Bool.false_and, true_and, and_true, wipeE, Option.isSome_some, Option.isSome_none, List.getElem?_concat_length, Nat.reduceBEq, Int.reduceEq, Int.reduceLT, Int.reduceLE, Int.reduceNeg, glo_0, glo_1, glo_2, glo_3, glo_4, glo_5, glo_6, glo_7, glo_8, konn_0, konq_0_0, konq_0_1, konq_0_2, konq_0_3, konq_0_4, konq_0_5, konq_0_6, konq_0_7, alt_0, alt_1, alt_2, alt_3, alt_4, alt_5, alt_6, alt_7, alt_8, exf_0, exf_1, exf_2, exf_3, exf_4, exf_5, c_PastError, c_NoName, c_NoState, c_HasCoins, c_NoVault, c_NoRow, c_Body, c_Walk, c_Vault, d_size_row, d_choice_table, d_coined, d_used, d_trace, d_cells, d_result, d_begin, d_deed_row, d_coin_count, d_row_count, d_many_cells, d_body_table, d_coins, d_held, d_cell_row, d_part, d_index])
theorem noC : ∀ (h : Nat) {many depth loops : Nat} {rows : List Rw}, rowsOk h many depth loops rows → 0 < loops → Rw.coinss rows = 0 := by
  intro h
  induction h with
  | zero =>
    intro many depth loops rows ok _
    rw [show rows = [] from ok]
    rfl
  | succ h ih =>
    intro many depth loops rows ok l0
    have ok' : ∀ r ∈ rows, rowOk h many depth loops r := fun r m => rowsOk_row ok m
    clear ok
    induction rows with
    | nil => rfl
    | cons r rs ihr =>
      have q := ihr fun x m => ok' x (List.mem_cons_of_mem _ m)
      have xo := ok' r List.mem_cons_self
      have one : r.coins = 0 := by
        cases r with
        | ife e a b =>
          have h1 := ih xo.2.1 l0
          have h2 := ih xo.2.2 l0
          show Rw.coinss a + Rw.coinss b = 0
          omega
        | times e a => exact ih xo.2.2 (Nat.lt_succ_of_lt l0)
        | coin r => exact absurd xo.2 (by omega)
        | _ => rfl
      show r.coins + Rw.coinss rs = 0
      omega
def Agree (L L' : List Int) (n : Nat) : Prop := n ≤ L'.length ∧ ∀ i, i < n → L'.getD i 0 = L.getD i 0
theorem Agree.mono {L L' : List Int} {n m : Nat} (h : Agree L L' n) (l : m ≤ n) : Agree L L' m := ⟨Nat.le_trans l h.1, fun i hi => h.2 i (Nat.lt_of_lt_of_le hi l)⟩
theorem Agree.take (L : List Int) (n : Nat) (h : n ≤ L.length) : Agree L (L.take n) n := ⟨by rw [List.length_take]; omega, fun i hi => by rw [List.getD_eq_getElem?_getD, List.getD_eq_getElem?_getD, List.getElem?_take_of_lt hi]⟩
def En (L : List Int) (n : Nat) (W : Wk) (f : List Int → Res) : Prop := W.used ≤ (f L).2.used ∧ (f L).2.used ≤ W.used + n ∧ (∀ a, (f L).1 = some a → 0 ≤ a ∧ a ≤ 9) ∧ ∀ L', Agree L L' (f L).2.used → f L' = f L
def seqR (R : Res) (g : Wk → Res) : Res := match R with
  | (some a, W') => (some a, W')
  | (none, W') => g W'
theorem En.seq {L : List Int} {n m : Nat} {W : Wk} {f : List Int → Res} {g : List Int → Wk → Res} (hf : En L n W f) (hg : ∀ W', f L = (none, W') → En L m W' fun L => g L W') : En L (n + m) W fun L => seqR (f L) (g L) := by
  obtain ⟨f1, f2, f3, f4⟩ := hf
  unfold En
  show W.used ≤ (seqR (f L) (g L)).2.used ∧ (seqR (f L) (g L)).2.used ≤ W.used + (n + m) ∧ (∀ a, (seqR (f L) (g L)).1 = some a → 0 ≤ a ∧ a ≤ 9) ∧ ∀ L', Agree L L' (seqR (f L) (g L)).2.used → seqR (f L') (g L') = seqR (f L) (g L)
  cases e : f L with
  | mk o W' =>
    rw [e] at f1 f2 f3 f4
    cases o with
    | some a =>
      show W.used ≤ W'.used ∧ W'.used ≤ W.used + (n + m) ∧ (∀ a', some a = some a' → 0 ≤ a' ∧ a' ≤ 9) ∧ ∀ L', Agree L L' W'.used → seqR (f L') (g L') = (some a, W')
      dsimp only at f1 f2 f3 f4
      exact ⟨f1, by omega, f3, fun L' ag => by rw [f4 L' ag]; rfl⟩
    | none =>
      obtain ⟨g1, g2, g3, g4⟩ := hg W' e
      dsimp only at f1 f2 f3 f4 g1 g2 g3 g4
      show W.used ≤ (g L W').2.used ∧ (g L W').2.used ≤ W.used + (n + m) ∧ (∀ a', (g L W').1 = some a' → 0 ≤ a' ∧ a' ≤ 9) ∧ ∀ L', Agree L L' (g L W').2.used → seqR (f L') (g L') = g L W'
      exact ⟨by omega, by omega, g3, fun L' ag => by rw [f4 L' (ag.mono g1)]; exact g4 L' ag⟩
theorem En.mono {L : List Int} {n m : Nat} {W : Wk} {f : List Int → Res} (h : En L n W f) (l : n ≤ m) : En L m W f := ⟨h.1, by have := h.2.1; omega, h.2.2⟩
theorem En.one {L : List Int} {n : Nat} {W : Wk} {f : List Int → Res} {R : Res} (h : ∀ L, f L = R) (u : R.2.used = W.used) (a : ∀ a, R.1 = some a → 0 ≤ a ∧ a ≤ 9) : En L n W f := by
  unfold En
  rw [h L, u]
  exact ⟨Nat.le_refl _, Nat.le_add_right _ _, a, fun L' _ => h L'⟩
theorem step_en {sz : List Nat} {L : List Int} (so : SzOk sz L) {h : Nat} {rec : List Int → List Rw → Wk → Res} (hok : ∀ rows depth loops W, rowsOk h sz.length depth loops rows → W.ok sz L → (rec L rows W).2.ok sz L)
    (ih : ∀ rows depth loops W, rowsOk h sz.length depth loops rows → W.ok sz L → W.used + Rw.coinss rows ≤ L.length → En L (Rw.coinss rows) W fun L => rec L rows W) {r : Rw} {depth loops : Nat} (hr : rowOk h sz.length depth loops r) {W : Wk} (ok : W.ok sz L) (l : W.used + r.coins ≤ L.length) : En L r.coins W fun L => stepRw sz L (rec L) r W := by
  cases r with
  | ans e =>
    have v9 := Ex.val_ok ok.r hr
    exact .one (R := (some (e.val W.r), W)) (fun _ => rfl) rfl fun a h => by cases h; exact v9
  | ife e a b =>
    have l : W.used + (Rw.coinss a + Rw.coinss b) ≤ L.length := l
    show En L (Rw.coinss a + Rw.coinss b) W fun L => if e.val W.r ≠ 0 then rec L a W else rec L b W
    by_cases z : e.val W.r ≠ 0
    · simp only [if_pos z]
      exact (ih a _ _ W hr.2.1 ok (by omega)).mono (by omega)
    · simp only [if_neg z]
      exact (ih b _ _ W hr.2.2 ok (by omega)).mono (by omega)
  | times e a =>
    have c0 := noC h hr.2.2 (Nat.succ_pos _)
    show En L (Rw.coinss a) W fun L => timesOf (rec L a) (e.val W.r).toNat W
    rw [c0]
    generalize (e.val W.r).toNat = n
    clear l
    induction n generalizing W with
    | zero => exact .one (R := (none, W)) (fun _ => rfl) rfl fun a h => by cases h
    | succ n ihn =>
      have us := ok.used
      have q := ih a _ _ W hr.2.2 ok (by omega)
      rw [c0] at q
      refine (q.seq (g := fun L W' => timesOf (rec L a) n W') (m := 0) fun W' e => ?_)
      have o := hok a _ _ W hr.2.2 ok
      rw [e] at o
      exact ihn o
  | coin g =>
    have l : W.used + 1 ≤ L.length := l
    have e1 : ∀ L : List Int, W.used + 1 ≤ L.length → stepRw sz L (rec L) (.coin g) W = (none, { W with r := W.r.put g (L.getD W.used 0), used := W.used + 1 }) := fun L l => if_neg (by omega)
    unfold En
    show W.used ≤ (stepRw sz L (rec L) (.coin g) W).2.used ∧ (stepRw sz L (rec L) (.coin g) W).2.used ≤ W.used + 1 ∧ (∀ a, (stepRw sz L (rec L) (.coin g) W).1 = some a → 0 ≤ a ∧ a ≤ 9) ∧ ∀ L', Agree L L' (stepRw sz L (rec L) (.coin g) W).2.used → stepRw sz L' (rec L') (.coin g) W = stepRw sz L (rec L) (.coin g) W
    rw [e1 L l]
    refine ⟨Nat.le_add_right _ _, Nat.le_refl _, (fun a h => by cases h), fun L' ag => ?_⟩
    have a1 : W.used + 1 ≤ L'.length := ag.1
    show stepRw sz L' (rec L') (.coin g) W = _
    rw [e1 L' a1, ag.2 W.used (Nat.lt_succ_self _)]
  | keep r e => exact .one (R := (none, { W with r := W.r.put r (e.val W.r) })) (fun _ => rfl) rfl fun a h => by cases h
  | set c e => exact .one (R := (none, { W with cells := W.cells.set c (inCell sz c (e.val W.r)), trace := W.trace ++ [tell wSet c (inCell sz c (e.val W.r)) (W.cells.set c (inCell sz c (e.val W.r)))] })) (fun _ => rfl) rfl fun a h => by cases h
  | read r c => exact .one (R := (none, { W with r := W.r.put r (W.cells.getD c 0), trace := W.trace ++ [tell wRead c (W.cells.getD c 0) W.cells] })) (fun _ => rfl) rfl fun a h => by cases h
  | swap r c e f =>
    by_cases z : (W.cells.getD c 0 : Int) = e.val W.r
    · exact .one (R := (none, { W with cells := W.cells.set c (inCell sz c (f.val W.r)), r := W.r.put r 1, trace := W.trace ++ [tell wSwap c 1 (W.cells.set c (inCell sz c (f.val W.r)))] })) (fun _ => if_pos z) rfl fun a h => by cases h
    · exact .one (R := (none, { W with r := W.r.put r 0, trace := W.trace ++ [tell wSwap c 0 W.cells] })) (fun _ => if_neg z) rfl fun a h => by cases h
theorem rows_en {sz : List Nat} {L : List Int} (so : SzOk sz L) : ∀ (h : Nat) (rows : List Rw) (depth loops : Nat) (W : Wk), rowsOk h sz.length depth loops rows → W.ok sz L → W.used + Rw.coinss rows ≤ L.length → En L (Rw.coinss rows) W fun L => doRows sz L h rows W := by
  intro h
  induction h with
  | zero =>
    intro rows depth loops W hr ok l
    exact .one (R := (none, W)) (fun _ => rfl) rfl fun a h => by cases h
  | succ h ih =>
    intro rows depth loops W hr ok l
    have hr' : ∀ r ∈ rows, rowOk h sz.length depth loops r := fun r m => rowsOk_row hr m
    clear hr
    show En L (Rw.coinss rows) W fun L => rowsOf (stepRw sz L (doRows sz L h)) rows W
    induction rows generalizing W with
    | nil => exact .one (R := (none, W)) (fun _ => rfl) rfl fun a h => by cases h
    | cons r rs ihr =>
      have l : W.used + (r.coins + Rw.coinss rs) ≤ L.length := l
      have q := step_en so (rec := fun L => doRows sz L h) (fun rows depth loops W => rows_ok so h rows depth loops W) ih (hr' r List.mem_cons_self) ok (by omega)
      have o := step_ok so (rec := doRows sz L h) (fun rows depth loops W => rows_ok so h rows depth loops W) (hr' r List.mem_cons_self) ok
      refine q.seq (g := fun L W' => rowsOf (stepRw sz L (doRows sz L h)) rs W') (m := Rw.coinss rs) fun W' e => ?_
      have u := q.2.1
      dsimp only at e u
      rw [e] at o u
      exact ihr W' o (by dsimp only at u; omega) fun x m => hr' x (List.mem_cons_of_mem _ m)
theorem runW_en {V : Vt} (ok : V.ok) {L : List Int} (hL : ∀ c ∈ L, c = 0 ∨ c = 1) {s : List Nat} (hs : V.st s) {x : Dd} {n : Nat} (hc : CallOf V x n) (l : Rw.coinss x.rows ≤ L.length) : En L (Rw.coinss x.rows) (startW s n) fun L => runW V L s x n :=
  rows_en (V_so ok hL) 12 x.rows 1 0 _ (by rw [V_szlen]; exact (ok.deed x hc.mem).rows) (startW_ok ok hs (by have := (ok.deed x hc.mem).hi; have := hc.lt; omega)) (by show 0 + _ ≤ _; omega)
theorem runW_an {V : Vt} (ok : V.ok) {L : List Int} (hL : ∀ c ∈ L, c = 0 ∨ c = 1) {s : List Nat} (hs : V.st s) {x : Dd} {n : Nat} (hc : CallOf V x n) (l : Rw.coinss x.rows ≤ L.length) : 0 ≤ ansOf (runW V L s x n) ∧ ansOf (runW V L s x n) ≤ 9 := by
  have q := (runW_en ok hL hs hc l).2.2.1
  dsimp only at q
  unfold ansOf
  cases e : (runW V L s x n).1 with
  | none => exact ⟨by decide, by decide⟩
  | some a => exact q a e
theorem runW_take {V : Vt} (ok : V.ok) {L : List Int} (hL : ∀ c ∈ L, c = 0 ∨ c = 1) {s : List Nat} (hs : V.st s) {x : Dd} {n : Nat} (hc : CallOf V x n) (l : Rw.coinss x.rows ≤ L.length) : runW V (L.take (runW V L s x n).2.used) s x n = runW V L s x n :=
  (runW_en ok hL hs hc l).2.2.2 _ (.take L _ (runW_ok ok hL hs hc).used)
theorem plain_mono : ∀ {n m : Nat} {d : D}, plain n d → n ≤ m → plain m d
  | 0, m, .int _, _, _ => by cases m <;> exact trivial
  | 0, m, .str _, _, _ => by cases m <;> exact trivial
  | n + 1, m, .int _, _, _ => by cases m <;> exact trivial
  | n + 1, m, .str _, _, _ => by cases m <;> exact trivial
  | n + 1, m + 1, .tup ds, h, l => ⟨h.1, fun d hd => plain_mono (h.2 d hd) (Nat.le_of_succ_le_succ l)⟩
  | n + 1, 0, .tup ds, h, l => absurd l (by omega)
  | 0, _, .tup _, h, _ => h.elim
  | 0, _, .non, h, _ => h.elim
  | 0, _, .bl _, h, _ => h.elim
  | 0, _, .ref _, h, _ => h.elim
  | 0, _, .kon _, h, _ => h.elim
  | _ + 1, _, .non, h, _ => h.elim
  | _ + 1, _, .bl _, h, _ => h.elim
  | _ + 1, _, .ref _, h, _ => h.elim
  | _ + 1, _, .kon _, h, _ => h.elim
theorem plain_int (n : Nat) (i : Int) : plain n (.int i) := by cases n <;> exact trivial
theorem plain_str (n : Nat) (x : List Nat) : plain n (.str x) := by cases n <;> exact trivial
theorem plain_ex : ∀ {n : Nat} {e : Ex}, e.ok n → plain n e.d
  | n, .num i, _ => plain_int _ _
  | n, .reg c, _ => plain_str _ _
  | 0, .op _ _ _, h => by cases h
  | n + 1, .op s a b, h => ⟨(show 3 ≤ 1000 by decide), fun d hd => by
    have hd : d ∈ [D.str [s], a.d, b.d] := hd
    simp only [List.mem_cons, List.not_mem_nil, or_false] at hd
    rcases hd with e | e | e
    · rw [e]; exact plain_str _ _
    · rw [e]; exact plain_ex h.2.1
    · rw [e]; exact plain_ex h.2.2⟩
theorem len_sizes : ∀ rs : List Rw, rs.length ≤ Rw.sizes rs
  | [] => Nat.le_refl _
  | r :: rs => by
    have := len_sizes rs
    have : 1 ≤ r.size := by cases r <;> simp only [Rw.size] <;> omega
    show rs.length + 1 ≤ r.size + Rw.sizes rs
    omega
theorem plain_rows : ∀ (h : Nat) {many depth loops : Nat} {rows : List Rw}, rowsOk h many depth loops rows → Rw.sizes rows ≤ 1000 → plain (2 * h + 7) (.tup (Rw.ds rows)) := by
  intro h
  induction h with
  | zero =>
    intro many depth loops rows ok _
    rw [show rows = [] from ok]
    exact ⟨Nat.zero_le _, fun d hd => by cases hd⟩
  | succ h ih =>
    intro many depth loops rows ok sl
    have ok' : ∀ r ∈ rows, rowOk h many depth loops r := fun r m => rowsOk_row ok m
    clear ok
    refine ⟨by rw [ds_len]; have := len_sizes rows; omega, ?_⟩
    induction rows with
    | nil => intro d hd; cases hd
    | cons r rs ihr =>
      have sl : r.size + Rw.sizes rs ≤ 1000 := sl
      intro d hd
      rcases List.mem_cons.mp (show d ∈ r.d :: Rw.ds rs from hd) with e | e
      · subst e
        have xo := ok' r List.mem_cons_self
        have pe : ∀ {e : Ex}, e.ok 6 → plain (2 * h + 7) e.d := fun h => plain_mono (plain_ex h) (by omega)
        cases r with
        | ife e a b =>
          have sl : (1 + Rw.sizes a + Rw.sizes b) + Rw.sizes rs ≤ 1000 := sl
          refine ⟨(show 4 ≤ 1000 by decide), fun d hd => ?_⟩
          simp only [List.mem_cons, List.not_mem_nil, or_false] at hd
          rcases hd with e | e | e | e
          · rw [e]; exact plain_str _ _
          · rw [e]; exact pe xo.1
          · rw [e]; exact ih xo.2.1 (by omega)
          · rw [e]; exact ih xo.2.2 (by omega)
        | times e a =>
          have sl : (1 + Rw.sizes a) + Rw.sizes rs ≤ 1000 := sl
          refine ⟨(show 3 ≤ 1000 by decide), fun d hd => ?_⟩
          simp only [List.mem_cons, List.not_mem_nil, or_false] at hd
          rcases hd with e | e | e
          · rw [e]; exact plain_str _ _
          · rw [e]; exact pe xo.2.1
          · rw [e]; exact ih xo.2.2 (by omega)
        | coin r =>
          refine ⟨(show 2 ≤ 1000 by decide), fun d hd => ?_⟩
          simp only [List.mem_cons, List.not_mem_nil, or_false] at hd
          rcases hd with e | e <;> rw [e] <;> exact plain_str _ _
        | keep r e =>
          refine ⟨(show 3 ≤ 1000 by decide), fun d hd => ?_⟩
          simp only [List.mem_cons, List.not_mem_nil, or_false] at hd
          rcases hd with e | e | e
          · rw [e]; exact plain_str _ _
          · rw [e]; exact plain_str _ _
          · rw [e]; exact pe xo.2
        | ans e =>
          refine ⟨(show 2 ≤ 1000 by decide), fun d hd => ?_⟩
          simp only [List.mem_cons, List.not_mem_nil, or_false] at hd
          rcases hd with e | e
          · rw [e]; exact plain_str _ _
          · rw [e]; exact pe xo
        | read r c =>
          refine ⟨(show 3 ≤ 1000 by decide), fun d hd => ?_⟩
          simp only [List.mem_cons, List.not_mem_nil, or_false] at hd
          rcases hd with e | e | e
          · rw [e]; exact plain_str _ _
          · rw [e]; exact plain_str _ _
          · rw [e]; exact plain_int _ _
        | set c e =>
          refine ⟨(show 3 ≤ 1000 by decide), fun d hd => ?_⟩
          simp only [List.mem_cons, List.not_mem_nil, or_false] at hd
          rcases hd with e | e | e
          · rw [e]; exact plain_str _ _
          · rw [e]; exact plain_int _ _
          · rw [e]; exact pe xo.2
        | swap r c e f =>
          refine ⟨(show 5 ≤ 1000 by decide), fun d hd => ?_⟩
          simp only [List.mem_cons, List.not_mem_nil, or_false] at hd
          rcases hd with e | e | e | e | e
          · rw [e]; exact plain_str _ _
          · rw [e]; exact plain_str _ _
          · rw [e]; exact plain_int _ _
          · rw [e]; exact pe xo.2.2.1
          · rw [e]; exact pe xo.2.2.2
      · exact ihr (by omega) (fun x m => ok' x (List.mem_cons_of_mem _ m)) d e
theorem plain_st (s : List Nat) (l : s.length ≤ 1000) : plain 1 (stD s) := ⟨by simpa using l, fun d hd => by
  obtain ⟨n, _, rfl⟩ := List.mem_map.mp hd
  exact trivial⟩
theorem plain_cells {cs : List (Nat × Nat)} (l : cs.length ≤ 1000) : plain 2 (.tup (cs.map cellD)) := ⟨by simpa using l, fun d hd => by
  obtain ⟨n, _, rfl⟩ := List.mem_map.mp hd
  refine ⟨(show 2 ≤ 1000 by decide), fun d hd => ?_⟩
  simp only [List.mem_cons, List.not_mem_nil, or_false] at hd
  rcases hd with e | e <;> rw [e] <;> exact trivial⟩
theorem plain_deeds {many : Nat} {xs : List Dd} (l : xs.length ≤ 1000) (h : ∀ x ∈ xs, rowsOk 12 many 1 0 x.rows ∧ Rw.sizes x.rows ≤ 1000) : plain 33 (.tup (xs.map Dd.d)) := ⟨by simpa using l, fun d hd => by
  obtain ⟨x, hx, rfl⟩ := List.mem_map.mp hd
  refine ⟨(show 3 ≤ 1000 by decide), fun d hd => ?_⟩
  simp only [List.mem_cons, List.not_mem_nil, or_false] at hd
  rcases hd with e | e | e
  · rw [e]; exact trivial
  · rw [e]; exact trivial
  · rw [e]; exact plain_rows 12 (h x hx).1 (h x hx).2⟩
theorem drawstate {v g h : Nat} {cs : List (Nat × Nat)} {elt : Env → Store → QE → Prop} {tests : Env → Store → (Bool → Store → Prop) → Prop} {env : Env} {st : Store} {Q : QE} (eg : st[g]? = some (.lst (cs.map cellD))) (neg : g ≠ h) (hl : cs.length ≤ 1000) (p : Pool h st)
    (ht : ∀ e s P, P true s → tests e s P)
    (turn : ∀ (c : Nat × Nat) (s : Store) (Q' : QE), c ∈ cs → Ch h st s → (∀ (n : Nat) s', n < c.1 → Ch h s s' → Q' (.int n) s') → elt (env.set v (some (cellD c))) s Q')
    (done : ∀ ns s, ns.length = cs.length → (∀ p ∈ cs.zip ns, p.2 < p.1.1) → s[st.length]? = some (.lst (ns.map natD)) → Ch h st s → Q (.ref st.length) s) :
    ∃ m, cmpN (.lst g) (.nm v) tests elt st.length Q m 0 env (st ++ [.lst []]) := by
  have ne : st.length ≠ h := Nat.ne_of_gt p.lt
  refine cmp_l (ds := cs.map cellD) (fun r acc s => ∃ (as bs : List (Nat × Nat)) (ns : List Nat), cs = as ++ bs ∧ r = bs.map cellD ∧ acc = ns.map natD ∧ ns.length = as.length ∧ (∀ p ∈ as.zip ns, p.2 < p.1.1) ∧ s[st.length]? = some (.lst acc) ∧ Ch h st s) ⟨[], cs, [], rfl, rfl, rfl, rfl, (fun p m => by cases m), get_snoc _ _, (Ch.refl p).app⟩ (fun r acc s ⟨as, bs, ns, e1, e2, e3, e4, e5, e6, e7⟩ => by rw [e7.get eg neg]; rfl) (fun d r acc s N ⟨as, bs, ns, e1, e2, e3, e4, e5, e6, e7⟩ hN => ?_) (fun acc s ⟨as, bs, ns, e1, e2, e3, e4, e5, e6, e7⟩ => ?_)
  · cases bs with
    | nil => cases e2
    | cons c bs =>
      cases e2
      have hl2 : as.length ≤ 1000 := by rw [e1, List.length_append] at hl; omega
      refine ht _ _ _ ?_
      simp!
      refine turn c s _ (by rw [e1]; exact List.mem_append_right _ List.mem_cons_self) e7 fun n s' hn ch => ?_
      simp! [ch.get e6 ne]
      refine ⟨lt_line (by rw [e3, List.length_map]; omega), hN _ _ ⟨as ++ [c], bs, ns ++ [n], by rw [e1]; simp, rfl, by rw [e3, List.map_append]; rfl, by simp [e4], fun p hp => ?_, set_get (ch.get e6 ne), (e7.trans ch).set ne (Nat.le_refl _)⟩⟩
      rw [List.zip_append e4.symm] at hp
      rcases List.mem_append.mp hp with z | z
      · exact e5 p z
      · rw [List.mem_singleton.mp z]
        exact hn
  · cases bs with
    | cons c bs => cases e2
    | nil =>
      rw [List.append_nil] at e1
      subst e1
      exact done ns s e4 e5 (by rw [e6, e3]) e7
theorem same_lst {n k a b : Nat} {ds : List D} {st : Store} {Q : QE} {X : QX} (hd : ∀ d ∈ ds, plain n d) (hl : ds.length ≤ 1000000) (ea : st[a]? = some (.lst ds)) (eb : st[b]? = some (.lst ds)) (hq : Q (.bl true) st) : Call T (k + n + 2) n__law_same [.ref a, .ref b] st Q X := by
  refine call_z f__law_same.fn rfl rfl ?_
  show wpB T (Call T (k + n + 1)) none b__law_same [some (.ref a), some (.ref b), none] st _
  unfold b__law_same
  simp! [ea, eb]
  refine ⟨by omega, by omega, ?_⟩
  rw [Int.toNat_natCast, rngD_rg]
  refine for_s (fun r env s => ∃ (i m : Nat) (o : Option D), i + m = ds.length ∧ r = rg i m ∧ s = st ∧ env = [some (.ref a), some (.ref b), o]) ⟨0, ds.length, none, by omega, rfl, rfl, rfl⟩ (fun d r env s N ⟨i, m, o, e1, e2, e3, e4⟩ hN => ?_) (fun env s ⟨i, m, o, e1, e2, e3, e4⟩ => ?_)
  · subst e3 e4
    cases m with
    | zero => cases e2
    | succ m =>
      rw [rg_succ] at e2
      cases e2
      have il : i < ds.length := by omega
      simp! [ea, eb, getIx_n il]
      refine same n ds[i] (hd _ (List.getElem_mem il)) k s _ _ ?_
      simp!
      exact hN _ _ ⟨i + 1, m, _, by omega, rfl, rfl, rfl⟩
  · subst e3 e4
    cases m with
    | succ m => rw [rg_succ] at e2; cases e2
    | zero =>
      simp!
      exact hq
theorem cut_take {α : Type} (xs : List α) (n : Nat) : cutL xs none (some (n : Int)) = xs.take n := by
  unfold cutL cutIx
  rw [HT.sIx_nat]
  show (xs.drop 0).take (min n xs.length - 0) = xs.take n
  rw [List.drop_zero, Nat.sub_zero, List.take_eq_take_iff]
  omega
theorem cut_drop {α : Type} (xs : List α) (n : Nat) : cutL xs (some (n : Int)) none = xs.drop n := by
  unfold cutL cutIx
  rw [HT.sIx_nat]
  show (xs.drop (min n xs.length)).take (xs.length - min n xs.length) = xs.drop n
  rw [List.take_of_length_le (by rw [List.length_drop]; omega)]
  by_cases h : n ≤ xs.length
  · rw [Nat.min_eq_left h]
  · rw [Nat.min_eq_right (by omega), List.drop_of_length_le (by omega), List.drop_of_length_le (by omega)]
theorem falls_of : ∀ {ds : List D}, (∀ d ∈ ds, ∃ c : Int, d = .int c ∧ (c = 0 ∨ c = 1)) → ∃ L : List Int, ds = L.map D.int ∧ ∀ c ∈ L, c = 0 ∨ c = 1
  | [], _ => ⟨[], rfl, fun c h => by cases h⟩
  | d :: ds, h => by
    obtain ⟨c, rfl, hc⟩ := h d List.mem_cons_self
    obtain ⟨L, rfl, hL⟩ := falls_of fun x m => h x (List.mem_cons_of_mem _ m)
    exact ⟨c :: L, rfl, fun x m => by
      rcases List.mem_cons.mp m with z | z
      · rw [z]; exact hc
      · exact hL x z⟩
theorem rngD_rg' (a n : Nat) : rngD (a : Int) n = rg a n := by
  unfold rngD rg
  rw [List.range'_eq_map_range, List.map_map]
  refine List.map_congr_left fun j _ => ?_
  simp
theorem drawn_ok {cs : List (Nat × Nat)} {xs : List Dd} {coins : Nat} (l1 : 1 ≤ cs.length) (l3 : cs.length ≤ 6) (hc : ∀ c ∈ cs, 1 ≤ c.1 ∧ c.1 ≤ 9 ∧ c.2 < c.1) (d1 : 1 ≤ xs.length) (d4 : xs.length ≤ 4) (hx : ∀ x ∈ xs, DeedP cs.length coins x) (nd : (xs.map (·.nm)).Nodup) (c4 : coins ≤ 4) : (⟨cs, xs⟩ : Vt).ok :=
  ⟨l1, l3, hc, d1, (by show xs.length ≤ 8; omega), fun x m => by
    have h := hx x m
    exact ⟨h.nm, h.lo, by have := h.hi; omega, h.body.ok, by have := h.body.size; omega, by have := h.body.coins; omega⟩, nd⟩
theorem plain_shape {cs : List (Nat × Nat)} {xs : List Dd} {coins : Nat} (l3 : cs.length ≤ 6) (d4 : xs.length ≤ 4) (hx : ∀ x ∈ xs, DeedP cs.length coins x) : plain 34 (.tup [.tup (cs.map cellD), .tup (xs.map Dd.d)]) := by
  refine ⟨(show 2 ≤ 1000 by decide), fun d hd => ?_⟩
  simp only [List.mem_cons, List.not_mem_nil, or_false] at hd
  rcases hd with e | e
  · rw [e]; exact plain_mono (plain_cells (by omega)) (by decide)
  · rw [e]; exact plain_deeds (many := cs.length) (by omega) fun x m => ⟨(hx x m).body.ok, by have := (hx x m).body.size; omega⟩
end Y.K_k12
set_option linter.all false
set_option maxHeartbeats 1600000
set_option maxRecDepth 100000
namespace Y.K_k12
open Y PySem
local macro_rules
  | `(tactic| simp! [$ls,*]) => `(tactic| simp (implicitDefEqProofs := false) (dsimp := false) (failIfUnchanged := false) only [lz1, z_ifT, z_ifF, k_c0, k_c1, k_c2, k_c3, k_c4, k_c5, k_c6, k_few0, k_fewS, k_lkm, k_pf0, k_pfh, k_pfm, k_cls, k_clsO, ks_nx, ks_rt, ks_bk, ks_ct, ks_xc, kl_nx, kl_rt, kl_bk, kl_ct, kl_xc, kc_nx, kc_rt, kc_xc, kt_nx, kt_rt, kt_bk, kt_ct, kt_xc, kh_nx, kh_rt, un_n, un_s, isNon_1, isNon_2, isNon_3, isNon_4, isNon_5, isNon_6, isNon_7, boolQ_1, intQ_1, optQ_1, lstQ_1, sqQ_1, sqQ_2, cntQ_1, cntQ_2, cntQ_3, dicQ_1, insQ_1, getIx_0, getIx_1, getIx_2, getIx_3, getIx_4, getIx_5, ixrQ_1, ixrQ_2, ixrQ_3, ixrQ_4, setIx_0, setIx_1, setIx_2, bindQ_nm, bindL_0, bindL_1, bindQ_tp, z_var, z_con, z_glo, z_bin, z_neg, z_cmp, z_chain, z_isN, z_notN, z_and, z_or, z_not, z_ife, z_call, z_make, methQ_1, z_meth, z_fld, z_pr, z_me, z_isi, z_idx, z_sli, z_abs0, z_tup, z_lst, z_dic, z_dcomp, z_fstr, z_efld, z_eisi, z_comp, z_Tcmp, z_Tchain, z_TisN, z_TnotN, z_Tand, z_Tor, z_Tnot, z_Ttv, z_nil, z_cons, z_Fnil, z_Fcons, z_Tsn, z_Ts1, z_rng1, int2Q_1, z_rng2, z_enm, z_zip, z_sq, z_Bnil, z_Bcons, z_asg, z_asgt, z_asg2, z_setf, z_seti, augQ_1, augQ_2, z_augn, z_augf, z_exp, z_ret, z_retN, z_if, z_for, z_whl, z_brk, z_cnt, z_pas, z_rais0, z_rais1, z_try, z_Hnil, z_Hcons, v_v0, v_vs, v_add, v_sub, v_mul, v_fdiv, v_mod, v_pow, v_sadd, v_tadd, v_ladd, v_lmul, v_int, v_intb, v_abs, v_max2, v_min2, v_stri, v_lens, v_lenm, v_len0, v_len1, v_len2, v_len3, v_len4, v_len5, v_len6, v_lenr, v_tupt, v_tupr, v_lstt, v_lstr, v_any, v_all, v_ixt, v_ixr, v_kon, v_seti, strQ_1, strQ_2, strQ_3, v_pts, v_ptn, v_sls, v_slt, v_slr, v_fld, v_setf, v_okl, v_oks, v_app, v_pop, v_lt, v_le, v_gt, v_ge, v_eq, v_ne, v_in, v_ni, v_eqii, v_eqss, v_eqbb, v_eqsi, v_eqis, v_eqni, v_eqin, v_eqns, v_eqsn, v_trn, v_trb, v_tri, v_trt, v_trr, v_trs, v_fms, v_fmi, v_inp, inrQ_1, inrQ_2, inrQ_3, v_inl, v_inK, v_ins, t_n, t_b, t_i, t_s, t_t, t_r, tyO_1, tyO_2, tyO_3, tyO_4, y_n, y_b, y_i, y_s, y_t, y_l, y_d, y_o, y_o1, y_o2, y_o3, y_o4, y_o5, y_o6, w_t, w_s, w_r, w_e, w_zs, w_zt, List.map_cons, List.map_nil, List.replicate_succ, List.replicate_zero, List.cons_append, List.nil_append, List.append_nil, List.set_cons_zero, List.set_cons_succ, List.any_cons, List.any_nil, List.lookup_cons_self, meT, reduceCtorEq, decide_true, decide_false, Bool.or_false, Bool.false_or, Bool.or_true, Bool.true_or, Bool.not_true, Bool.not_false, Bool.and_true, Bool.true_and, Bool.and_false, Bool.false_and, true_and, and_true, wipeE, Option.isSome_some, Option.isSome_none, List.getElem?_concat_length, Nat.reduceBEq, Int.reduceEq, Int.reduceLT, Int.reduceLE, Int.reduceNeg, glo_0, glo_1, glo_2, glo_3, glo_4, glo_5, glo_6, glo_7, glo_8, konn_0, konq_0_0, konq_0_1, konq_0_2, konq_0_3, konq_0_4, konq_0_5, konq_0_6, konq_0_7, alt_0, alt_1, alt_2, alt_3, alt_4, alt_5, alt_6, alt_7, alt_8, exf_0, exf_1, exf_2, exf_3, exf_4, exf_5, c_PastError, c_NoName, c_NoState, c_HasCoins, c_NoVault, c_NoRow, c_Body, c_Walk, c_Vault, d_size_row, d_choice_table, d_coined, d_used, d_trace, d_cells, d_result, d_begin, d_deed_row, d_coin_count, d_row_count, d_many_cells, d_body_table, d_coins, d_held, d_cell_row, d_part, d_index, $ls,*])
local macro_rules
  | `(tactic| simp!) => `(tactic| simp (implicitDefEqProofs := false) (dsimp := false) (failIfUnchanged := false) only [lz1, z_ifT, z_ifF, k_c0, k_c1, k_c2, k_c3, k_c4, k_c5, k_c6, k_few0, k_fewS, k_lkm, k_pf0, k_pfh, k_pfm, k_cls, k_clsO, ks_nx, ks_rt, ks_bk, ks_ct, ks_xc, kl_nx, kl_rt, kl_bk, kl_ct, kl_xc, kc_nx, kc_rt, kc_xc, kt_nx, kt_rt, kt_bk, kt_ct, kt_xc, kh_nx, kh_rt, un_n, un_s, isNon_1, isNon_2, isNon_3, isNon_4, isNon_5, isNon_6, isNon_7, boolQ_1, intQ_1, optQ_1, lstQ_1, sqQ_1, sqQ_2, cntQ_1, cntQ_2, cntQ_3, dicQ_1, insQ_1, getIx_0, getIx_1, getIx_2, getIx_3, getIx_4, getIx_5, ixrQ_1, ixrQ_2, ixrQ_3, ixrQ_4, setIx_0, setIx_1, setIx_2, bindQ_nm, bindL_0, bindL_1, bindQ_tp, z_var, z_con, z_glo, z_bin, z_neg, z_cmp, z_chain, z_isN, z_notN, z_and, z_or, z_not, z_ife, z_call, z_make, methQ_1, z_meth, z_fld, z_pr, z_me, z_isi, z_idx, z_sli, z_abs0, z_tup, z_lst, z_dic, z_dcomp, z_fstr, z_efld, z_eisi, z_comp, z_Tcmp, z_Tchain, z_TisN, z_TnotN, z_Tand, z_Tor, z_Tnot, z_Ttv, z_nil, z_cons, z_Fnil, z_Fcons, z_Tsn, z_Ts1, z_rng1, int2Q_1, z_rng2, z_enm, z_zip, z_sq, z_Bnil, z_Bcons, z_asg, z_asgt, z_asg2, z_setf, z_seti, augQ_1, augQ_2, z_augn, z_augf, z_exp, z_ret, z_retN, z_if, z_for, z_whl, z_brk, z_cnt, z_pas, z_rais0, z_rais1, z_try, z_Hnil, z_Hcons, v_v0, v_vs, v_add, v_sub, v_mul, v_fdiv, v_mod, v_pow, v_sadd, v_tadd, v_ladd, v_lmul, v_int, v_intb, v_abs, v_max2, v_min2, v_stri, v_lens, v_lenm, v_len0, v_len1, v_len2, v_len3, v_len4, v_len5, v_len6, v_lenr, v_tupt, v_tupr, v_lstt, v_lstr, v_any, v_all, v_ixt, v_ixr, v_kon, v_seti, strQ_1, strQ_2, strQ_3, v_pts, v_ptn, v_sls, v_slt, v_slr, v_fld, v_setf, v_okl, v_oks, v_app, v_pop, v_lt, v_le, v_gt, v_ge, v_eq, v_ne, v_in, v_ni, v_eqii, v_eqss, v_eqbb, v_eqsi, v_eqis, v_eqni, v_eqin, v_eqns, v_eqsn, v_trn, v_trb, v_tri, v_trt, v_trr, v_trs, v_fms, v_fmi, v_inp, inrQ_1, inrQ_2, inrQ_3, v_inl, v_inK, v_ins, t_n, t_b, t_i, t_s, t_t, t_r, tyO_1, tyO_2, tyO_3, tyO_4, y_n, y_b, y_i, y_s, y_t, y_l, y_d, y_o, y_o1, y_o2, y_o3, y_o4, y_o5, y_o6, w_t, w_s, w_r, w_e, w_zs, w_zt, List.map_cons, List.map_nil, List.replicate_succ, List.replicate_zero, List.cons_append, List.nil_append, List.append_nil, List.set_cons_zero, List.set_cons_succ, List.any_cons, List.any_nil, List.lookup_cons_self, meT, reduceCtorEq, decide_true, decide_false, Bool.or_false, Bool.false_or, Bool.or_true, Bool.true_or, Bool.not_true, Bool.not_false, Bool.and_true, Bool.true_and, Bool.and_false, Bool.false_and, true_and, and_true, wipeE, Option.isSome_some, Option.isSome_none, List.getElem?_concat_length, Nat.reduceBEq, Int.reduceEq, Int.reduceLT, Int.reduceLE, Int.reduceNeg, glo_0, glo_1, glo_2, glo_3, glo_4, glo_5, glo_6, glo_7, glo_8, konn_0, konq_0_0, konq_0_1, konq_0_2, konq_0_3, konq_0_4, konq_0_5, konq_0_6, konq_0_7, alt_0, alt_1, alt_2, alt_3, alt_4, alt_5, alt_6, alt_7, alt_8, exf_0, exf_1, exf_2, exf_3, exf_4, exf_5, c_PastError, c_NoName, c_NoState, c_HasCoins, c_NoVault, c_NoRow, c_Body, c_Walk, c_Vault, d_size_row, d_choice_table, d_coined, d_used, d_trace, d_cells, d_result, d_begin, d_deed_row, d_coin_count, d_row_count, d_many_cells, d_body_table, d_coins, d_held, d_cell_row, d_part, d_index])
def Vt.begin (V : Vt) : List Nat := V.cells.map (·.2)
def Vt.with (V : Vt) (s : List Nat) : Vt := ⟨(V.cells.zip s).map fun p => (p.1.1, p.2), V.deeds⟩
theorem with_sz {V : Vt} {s : List Nat} (h : s.length = V.cells.length) : (V.with s).sz = V.sz := by
  unfold Vt.with Vt.sz
  rw [List.map_map]
  have : ∀ (cs : List (Nat × Nat)) (s : List Nat), s.length = cs.length → (cs.zip s).map ((fun c : Nat × Nat => c.1) ∘ fun p : (Nat × Nat) × Nat => (p.1.1, p.2)) = cs.map (·.1) := fun cs => by
    induction cs with
    | nil => intro s _; rfl
    | cons c cs ih =>
      intro s h
      cases s with
      | nil => cases h
      | cons n s =>
        rw [List.zip_cons_cons, List.map_cons, List.map_cons, ih s (by simpa using h)]
        rfl
  exact this _ _ h
theorem with_len {V : Vt} {s : List Nat} (h : s.length = V.cells.length) : (V.with s).cells.length = V.cells.length := by
  unfold Vt.with
  simp [h]
theorem with_ok {V : Vt} (ok : V.ok) {s : List Nat} (hs : V.st s) : (V.with s).ok := by
  have l := with_len hs.1
  refine ⟨by rw [l]; exact ok.c1, by rw [l]; exact ok.c6, fun c hc => ?_, ok.d1, ok.d8, fun x hx => ?_, ok.nd⟩
  · obtain ⟨p, hp, rfl⟩ := List.mem_map.mp hc
    have h1 := ok.cell p.1 (List.of_mem_zip hp).1
    have h2 := hs.2 p hp
    exact ⟨h1.1, h1.2.1, h2⟩
  · have h := ok.deed x hx
    exact ⟨h.nm, h.lo, h.hi, by rw [l]; exact h.rows, h.size, h.coins⟩
theorem with_begin {V : Vt} {s : List Nat} (h : s.length = V.cells.length) : (V.with s).begin = s := by
  unfold Vt.with Vt.begin
  rw [List.map_map]
  have : ∀ (cs : List (Nat × Nat)) (s : List Nat), s.length = cs.length → (cs.zip s).map ((fun c : Nat × Nat => c.2) ∘ fun p : (Nat × Nat) × Nat => (p.1.1, p.2)) = s := fun cs => by
    induction cs with
    | nil => intro s h; cases s with | nil => rfl | cons a s => cases h
    | cons c cs ih =>
      intro s h
      cases s with
      | nil => cases h
      | cons n s =>
        rw [List.zip_cons_cons, List.map_cons, ih s (by simpa using h)]
        rfl
  exact this _ _ h
theorem with_st {V : Vt} {s t : List Nat} (h : s.length = V.cells.length) (ht : V.st t) : (V.with s).st t := by
  refine ⟨by rw [with_len h]; exact ht.1, ?_⟩
  have : ∀ (cs : List (Nat × Nat)) (s t : List Nat), s.length = cs.length → (∀ p ∈ cs.zip t, p.2 < p.1.1) → ∀ p ∈ ((cs.zip s).map fun p => (p.1.1, p.2)).zip t, p.2 < p.1.1 := fun cs => by
    induction cs with
    | nil => intro s t _ _ p hp; cases hp
    | cons c cs ih =>
      intro s t h ht p hp
      cases s with
      | nil => cases h
      | cons n s =>
        cases t with
        | nil => simp at hp
        | cons m t =>
          rw [List.zip_cons_cons, List.map_cons, List.zip_cons_cons] at hp
          rcases List.mem_cons.mp hp with z | z
          · subst z; exact ht (c, m) (by simp)
          · exact ih s t (by simpa using h) (fun p hp => ht p (by rw [List.zip_cons_cons]; exact List.mem_cons_of_mem _ hp)) p z
  exact this _ _ _ h ht.2
theorem begin_st {V : Vt} (ok : V.ok) : V.st V.begin := by
  refine ⟨by simp [Vt.begin], fun p hp => ?_⟩
  have : ∀ (cs : List (Nat × Nat)), (∀ c ∈ cs, c.2 < c.1) → ∀ p ∈ cs.zip (cs.map (·.2)), p.2 < p.1.1 := fun cs => by
    induction cs with
    | nil => intro _ p hp; cases hp
    | cons c cs ih =>
      intro h p hp
      rw [List.map_cons, List.zip_cons_cons] at hp
      rcases List.mem_cons.mp hp with z | z
      · subst z; exact h c List.mem_cons_self
      · exact ih (fun x m => h x (List.mem_cons_of_mem _ m)) p z
  exact this _ (fun c hc => (ok.cell c hc).2.2) p hp
theorem runW_st {V : Vt} (ok : V.ok) {L : List Int} (hL : ∀ c ∈ L, c = 0 ∨ c = 1) {s : List Nat} (hs : V.st s) {x : Dd} {n : Nat} (hc : CallOf V x n) : V.st (runW V L s x n).2.cells := by
  have h := runW_ok ok hL hs hc
  refine ⟨by rw [h.len, V_szlen], ?_⟩
  have q := h.cell
  unfold Vt.sz at q
  rw [zip_map1] at q
  exact fun p hp => q (p.1.1, p.2) (List.mem_map.mpr ⟨p, hp, rfl⟩)
def callP (p : Dd × Nat) : D := calD p.1 p.2
def RowOf (V : Vt) (r : List (Dd × Nat)) : Prop := ∀ p ∈ r, CallOf V p.1 p.2
def pastV (V : Vt) : List Nat → List (Dd × Nat) → List Int × List Nat
  | s, [] => ([], s)
  | s, p :: r => (ansOf (runW V [] s p.1 p.2) :: (pastV V (runW V [] s p.1 p.2).2.cells r).1, (pastV V (runW V [] s p.1 p.2).2.cells r).2)
theorem pastV_app (V : Vt) : ∀ (s : List Nat) (a b : List (Dd × Nat)), pastV V s (a ++ b) = ((pastV V s a).1 ++ (pastV V (pastV V s a).2 b).1, (pastV V (pastV V s a).2 b).2)
  | s, [], b => rfl
  | s, p :: a, b => by
    rw [List.cons_append]
    show (_ :: _, _) = _
    rw [pastV_app V _ a b]
    rfl
theorem runW_sz {V W : Vt} (h : V.sz = W.sz) (L : List Int) (s : List Nat) (x : Dd) (n : Nat) : runW V L s x n = runW W L s x n := by
  unfold runW
  rw [h]
theorem pastV_sz {V W : Vt} (h : V.sz = W.sz) : ∀ (r : List (Dd × Nat)) (s : List Nat), pastV V s r = pastV W s r
  | [], s => rfl
  | p :: r, s => by
    show (_ :: _, _) = (_ :: _, _)
    rw [runW_sz h, pastV_sz h r]
theorem pastV_len (V : Vt) : ∀ (r : List (Dd × Nat)) (s : List Nat), (pastV V s r).1.length = r.length
  | [], s => rfl
  | p :: r, s => by
    show (pastV V _ r).1.length + 1 = r.length + 1
    rw [pastV_len V r]
theorem pastV_st {V : Vt} (ok : V.ok) : ∀ (r : List (Dd × Nat)) (s : List Nat), V.st s → RowOf V r → V.st (pastV V s r).2
  | [], s, h, _ => h
  | p :: r, s, h, hr => pastV_st ok r _ (runW_st ok (fun c m => by cases m) h (hr p List.mem_cons_self)) fun q m => hr q (List.mem_cons_of_mem _ m)
theorem pastV_take (V : Vt) (s : List Nat) (r : List (Dd × Nat)) (n : Nat) (h : n ≤ r.length) : (pastV V s r).1.drop n = (pastV V (pastV V s (r.take n)).2 (r.drop n)).1 ∧ (pastV V s r).2 = (pastV V (pastV V s (r.take n)).2 (r.drop n)).2 := by
  have q := pastV_app V s (r.take n) (r.drop n)
  rw [List.take_append_drop] at q
  rw [q]
  refine ⟨?_, rfl⟩
  have l : (pastV V s (r.take n)).1.length = n := by rw [pastV_len, List.length_take]; omega
  show ((pastV V s (r.take n)).1 ++ _).drop n = _
  rw [List.drop_append_of_le_length (by omega), List.drop_of_length_le (by omega), List.nil_append]
theorem hasC_coins : ∀ (h : Nat) {many depth loops : Nat} {rows : List Rw}, rowsOk h many depth loops rows → Rw.coinss rows = 0 → Rw.hasCs rows = false := by
  intro h
  induction h with
  | zero =>
    intro many depth loops rows ok _
    rw [show rows = [] from ok]
    rfl
  | succ h ih =>
    intro many depth loops rows ok c0
    have ok' : ∀ r ∈ rows, rowOk h many depth loops r := fun r m => rowsOk_row ok m
    clear ok
    induction rows with
    | nil => rfl
    | cons r rs ihr =>
      have c0 : r.coins + Rw.coinss rs = 0 := c0
      have q := ihr (by omega) fun x m => ok' x (List.mem_cons_of_mem _ m)
      have xo := ok' r List.mem_cons_self
      have one : r.hasC = false := by
        cases r with
        | ife e a b =>
          have c0 : (Rw.coinss a + Rw.coinss b) + Rw.coinss rs = 0 := c0
          have h1 := ih xo.2.1 (by omega)
          have h2 := ih xo.2.2 (by omega)
          show (Rw.hasCs a || Rw.hasCs b) = false
          rw [h1, h2]; rfl
        | times e a =>
          have c0 : Rw.coinss a + Rw.coinss rs = 0 := c0
          exact ih xo.2.2 (by omega)
        | coin r =>
          have c0 : 1 + Rw.coinss rs = 0 := c0
          omega
        | _ => rfl
      show (r.hasC || Rw.hasCs rs) = false
      rw [one, q]; rfl
def NoCoin (V : Vt) : Prop := ∀ x ∈ V.deeds, Rw.coinss x.rows = 0
theorem coined_no {V : Vt} (ok : V.ok) (h : NoCoin V) : (V.deeds.any fun x => Rw.hasCs x.rows) = false := by
  rw [List.any_eq_false]
  intro x hx
  rw [hasC_coins 12 (ok.deed x hx).rows (h x hx)]
  decide
theorem checkplain {k v : Nat} {V : Vt} {st : Store} {Q : QE} {X : QX} (hv : IsV st v V) (hn : NoCoin V) (hq : Q .non st) : Call T (k + 1) n_check_plain [.ref v] st Q X := by
  refine call_z f_check_plain.fn rfl rfl ?_
  show wpB T (Call T k) none b_check_plain [some (.ref v)] st _
  unfold b_check_plain
  obtain ⟨ok, ct, bt, h1, h2, h3⟩ := hv
  have c := coined_no ok hn
  unfold Vt.o at h1
  rw [c] at h1
  simp! [h1]
  exact hq
theorem rowfault {k v g : Nat} {V : Vt} {r : List (Dd × Nat)} {st : Store} {Q : QE} {X : QX} (hv : IsV st v V) (hr : RowOf V r) (eg : st[g]? = some (.lst (r.map callP))) (hq : Q .non st) : Call T (k + 3) n_row_fault [.ref v, .ref g] st Q X := by
  refine call_z f_row_fault.fn rfl rfl ?_
  show wpB T (Call T (k + 2)) none b_row_fault [some (.ref v), some (.ref g), none, none] st _
  unfold b_row_fault
  simp! [eg]
  refine for_e (ds := r.map callP) (fun i rest env s => ∃ (ps : List (Dd × Nat)) (q2 q3 : Option D), rest = ps.map callP ∧ (∀ p ∈ ps, p ∈ r) ∧ s = st ∧ env = [some (.ref v), some (.ref g), q2, q3]) ⟨r, none, none, rfl, fun _ m => m, rfl, rfl⟩ (fun i rest env s ⟨ps, q2, q3, e1, e2, e3, e4⟩ => by rw [e3, eg]; rfl) (fun i d rest env s N dr ⟨ps, q2, q3, e1, e2, e3, e4⟩ hN => ?_) (fun env s ⟨ps, q2, q3, e1, e2, e3, e4⟩ => ?_)
  · subst e3 e4
    cases ps with
    | nil => cases e1
    | cons p ps =>
      cases e1
      simp!
      refine iscall hv (hr p (e2 p List.mem_cons_self)) ?_
      simp!
      exact hN _ _ ⟨ps, _, _, rfl, fun q m => e2 q (List.mem_cons_of_mem _ m), rfl, rfl⟩
  · subst e3 e4
    simp!
    exact hq
theorem checkrow {k v g : Nat} {V : Vt} {r : List (Dd × Nat)} {st : Store} {Q : QE} {X : QX} (hv : IsV st v V) (hr : RowOf V r) (eg : st[g]? = some (.lst (r.map callP))) (hq : Q .non st) : Call T (k + 4) n_check_row [.ref v, .ref g] st Q X := by
  refine call_z f_check_row.fn rfl rfl ?_
  show wpB T (Call T (k + 3)) none b_check_row [some (.ref v), some (.ref g), none] st _
  unfold b_check_row
  simp!
  refine rowfault hv hr eg ?_
  simp!
  exact hq
theorem begun_ {k v : Nat} {V : Vt} {s : List Nat} {st : Store} {Q : QE} {X : QX} (hv : IsV st v V) (hs : V.st s) (hq : ∀ (s' : Store) (h : Nat), Keep st s' → st.length ≤ h → IsV s' h (V.with s) → Q (.ref h) s') : Call T (k + 52) n_begun [.ref v, stD s] st Q X := by
  refine call_z f_begun.fn rfl rfl ?_
  show wpB T (Call T (k + 51)) none b_begun [some (.ref v), some (stD s), none, none, none] st _
  unfold b_begun
  obtain ⟨ok, ct, bt, h1, h2, h3⟩ := hv
  have hv : IsV st v V := ⟨ok, ct, bt, h1, h2, h3⟩
  simp!
  refine checkstate (k := k + 47) hv hs ?_
  unfold Vt.o at h1
  simp! [h1, stD]
  rw [zip_D, List.map_map]
  have z6 := ok.c6
  have zl : (V.cells.zip s).length ≤ 6 := by rw [List.length_zip]; omega
  refine cmp_mapA (F := fun p : (Nat × Nat) × Nat => cellD (p.1.1, p.2)) (by omega) (fun acc => sa_s) (fun e s P h => ?_) (fun p hp t Q' kp hQ => ?_) ?_
  · simp!
    exact h
  · show bindQ (.tp _) (.tup [.int p.1.1, .int p.2]) _ _
    simp!
    exact hQ
  have e1 := get_app [O.lst ((V.cells.zip s).map fun p => cellD (p.1.1, p.2))] h1
  simp! [e1]
  have ec := get_snoc2 st [O.lst (V.deeds.map Dd.d)] (O.lst ((V.with s).cells.map cellD))
  have ed := get_snoc (st ++ [O.lst ((V.with s).cells.map cellD)]) (O.lst ((V.with s).deeds.map Dd.d))
  have ce : ((V.cells.zip s).map fun p => cellD (p.1.1, p.2)) = (V.with s).cells.map cellD := by unfold Vt.with; rw [List.map_map]; rfl
  rw [ce]
  have kp : Keep st (st ++ [O.lst ((V.with s).cells.map cellD)] ++ [O.lst (V.deeds.map Dd.d)]) := (Keep.new _ _).app _
  refine vinit (k := k) (V := V.with s) (with_ok ok hs) (get_snoc _ _) (get_app _ ec) (get_app _ ed) fun s3 kb iv => ?_
  simp!
  exact hq s3 _ (kp.trans (kb.cut (Nat.le_refl _))) (by simp) iv
end Y.K_k12
set_option linter.all false
set_option maxHeartbeats 1600000
set_option maxRecDepth 100000
namespace Y.K_k12
open Y PySem
local macro_rules
  | `(tactic| simp! [$ls,*]) => `(tactic| simp (implicitDefEqProofs := false) (dsimp := false) (failIfUnchanged := false) only [lz1, z_ifT, z_ifF, k_c0, k_c1, k_c2, k_c3, k_c4, k_c5, k_c6, k_few0, k_fewS, k_lkm, k_pf0, k_pfh, k_pfm, k_cls, k_clsO, ks_nx, ks_rt, ks_bk, ks_ct, ks_xc, kl_nx, kl_rt, kl_bk, kl_ct, kl_xc, kc_nx, kc_rt, kc_xc, kt_nx, kt_rt, kt_bk, kt_ct, kt_xc, kh_nx, kh_rt, un_n, un_s, isNon_1, isNon_2, isNon_3, isNon_4, isNon_5, isNon_6, isNon_7, boolQ_1, intQ_1, optQ_1, lstQ_1, sqQ_1, sqQ_2, cntQ_1, cntQ_2, cntQ_3, dicQ_1, insQ_1, getIx_0, getIx_1, getIx_2, getIx_3, getIx_4, getIx_5, ixrQ_1, ixrQ_2, ixrQ_3, ixrQ_4, setIx_0, setIx_1, setIx_2, bindQ_nm, bindL_0, bindL_1, bindQ_tp, z_var, z_con, z_glo, z_bin, z_neg, z_cmp, z_chain, z_isN, z_notN, z_and, z_or, z_not, z_ife, z_call, z_make, methQ_1, z_meth, z_fld, z_pr, z_me, z_isi, z_idx, z_sli, z_abs0, z_tup, z_lst, z_dic, z_dcomp, z_fstr, z_efld, z_eisi, z_comp, z_Tcmp, z_Tchain, z_TisN, z_TnotN, z_Tand, z_Tor, z_Tnot, z_Ttv, z_nil, z_cons, z_Fnil, z_Fcons, z_Tsn, z_Ts1, z_rng1, int2Q_1, z_rng2, z_enm, z_zip, z_sq, z_Bnil, z_Bcons, z_asg, z_asgt, z_asg2, z_setf, z_seti, augQ_1, augQ_2, z_augn, z_augf, z_exp, z_ret, z_retN, z_if, z_for, z_whl, z_brk, z_cnt, z_pas, z_rais0, z_rais1, z_try, z_Hnil, z_Hcons, v_v0, v_vs, v_add, v_sub, v_mul, v_fdiv, v_mod, v_pow, v_sadd, v_tadd, v_ladd, v_lmul, v_int, v_intb, v_abs, v_max2, v_min2, v_stri, v_lens, v_lenm, v_len0, v_len1, v_len2, v_len3, v_len4, v_len5, v_len6, v_lenr, v_tupt, v_tupr, v_lstt, v_lstr, v_any, v_all, v_ixt, v_ixr, v_kon, v_seti, strQ_1, strQ_2, strQ_3, v_pts, v_ptn, v_sls, v_slt, v_slr, v_fld, v_setf, v_okl, v_oks, v_app, v_pop, v_lt, v_le, v_gt, v_ge, v_eq, v_ne, v_in, v_ni, v_eqii, v_eqss, v_eqbb, v_eqsi, v_eqis, v_eqni, v_eqin, v_eqns, v_eqsn, v_trn, v_trb, v_tri, v_trt, v_trr, v_trs, v_fms, v_fmi, v_inp, inrQ_1, inrQ_2, inrQ_3, v_inl, v_inK, v_ins, t_n, t_b, t_i, t_s, t_t, t_r, tyO_1, tyO_2, tyO_3, tyO_4, y_n, y_b, y_i, y_s, y_t, y_l, y_d, y_o, y_o1, y_o2, y_o3, y_o4, y_o5, y_o6, w_t, w_s, w_r, w_e, w_zs, w_zt, List.map_cons, List.map_nil, List.replicate_succ, List.replicate_zero, List.cons_append, List.nil_append, List.append_nil, List.set_cons_zero, List.set_cons_succ, List.any_cons, List.any_nil, List.lookup_cons_self, meT, reduceCtorEq, decide_true, decide_false, Bool.or_false, Bool.false_or, Bool.or_true, Bool.true_or, Bool.not_true, Bool.not_false, Bool.and_true, Bool.true_and, Bool.and_false, Bool.false_and, true_and, and_true, wipeE, Option.isSome_some, Option.isSome_none, List.getElem?_concat_length, Nat.reduceBEq, Int.reduceEq, Int.reduceLT, Int.reduceLE, Int.reduceNeg, glo_0, glo_1, glo_2, glo_3, glo_4, glo_5, glo_6, glo_7, glo_8, konn_0, konq_0_0, konq_0_1, konq_0_2, konq_0_3, konq_0_4, konq_0_5, konq_0_6, konq_0_7, alt_0, alt_1, alt_2, alt_3, alt_4, alt_5, alt_6, alt_7, alt_8, exf_0, exf_1, exf_2, exf_3, exf_4, exf_5, c_PastError, c_NoName, c_NoState, c_HasCoins, c_NoVault, c_NoRow, c_Body, c_Walk, c_Vault, d_size_row, d_choice_table, d_coined, d_used, d_trace, d_cells, d_result, d_begin, d_deed_row, d_coin_count, d_row_count, d_many_cells, d_body_table, d_coins, d_held, d_cell_row, d_part, d_index, $ls,*])
local macro_rules
  | `(tactic| simp!) => `(tactic| simp (implicitDefEqProofs := false) (dsimp := false) (failIfUnchanged := false) only [lz1, z_ifT, z_ifF, k_c0, k_c1, k_c2, k_c3, k_c4, k_c5, k_c6, k_few0, k_fewS, k_lkm, k_pf0, k_pfh, k_pfm, k_cls, k_clsO, ks_nx, ks_rt, ks_bk, ks_ct, ks_xc, kl_nx, kl_rt, kl_bk, kl_ct, kl_xc, kc_nx, kc_rt, kc_xc, kt_nx, kt_rt, kt_bk, kt_ct, kt_xc, kh_nx, kh_rt, un_n, un_s, isNon_1, isNon_2, isNon_3, isNon_4, isNon_5, isNon_6, isNon_7, boolQ_1, intQ_1, optQ_1, lstQ_1, sqQ_1, sqQ_2, cntQ_1, cntQ_2, cntQ_3, dicQ_1, insQ_1, getIx_0, getIx_1, getIx_2, getIx_3, getIx_4, getIx_5, ixrQ_1, ixrQ_2, ixrQ_3, ixrQ_4, setIx_0, setIx_1, setIx_2, bindQ_nm, bindL_0, bindL_1, bindQ_tp, z_var, z_con, z_glo, z_bin, z_neg, z_cmp, z_chain, z_isN, z_notN, z_and, z_or, z_not, z_ife, z_call, z_make, methQ_1, z_meth, z_fld, z_pr, z_me, z_isi, z_idx, z_sli, z_abs0, z_tup, z_lst, z_dic, z_dcomp, z_fstr, z_efld, z_eisi, z_comp, z_Tcmp, z_Tchain, z_TisN, z_TnotN, z_Tand, z_Tor, z_Tnot, z_Ttv, z_nil, z_cons, z_Fnil, z_Fcons, z_Tsn, z_Ts1, z_rng1, int2Q_1, z_rng2, z_enm, z_zip, z_sq, z_Bnil, z_Bcons, z_asg, z_asgt, z_asg2, z_setf, z_seti, augQ_1, augQ_2, z_augn, z_augf, z_exp, z_ret, z_retN, z_if, z_for, z_whl, z_brk, z_cnt, z_pas, z_rais0, z_rais1, z_try, z_Hnil, z_Hcons, v_v0, v_vs, v_add, v_sub, v_mul, v_fdiv, v_mod, v_pow, v_sadd, v_tadd, v_ladd, v_lmul, v_int, v_intb, v_abs, v_max2, v_min2, v_stri, v_lens, v_lenm, v_len0, v_len1, v_len2, v_len3, v_len4, v_len5, v_len6, v_lenr, v_tupt, v_tupr, v_lstt, v_lstr, v_any, v_all, v_ixt, v_ixr, v_kon, v_seti, strQ_1, strQ_2, strQ_3, v_pts, v_ptn, v_sls, v_slt, v_slr, v_fld, v_setf, v_okl, v_oks, v_app, v_pop, v_lt, v_le, v_gt, v_ge, v_eq, v_ne, v_in, v_ni, v_eqii, v_eqss, v_eqbb, v_eqsi, v_eqis, v_eqni, v_eqin, v_eqns, v_eqsn, v_trn, v_trb, v_tri, v_trt, v_trr, v_trs, v_fms, v_fmi, v_inp, inrQ_1, inrQ_2, inrQ_3, v_inl, v_inK, v_ins, t_n, t_b, t_i, t_s, t_t, t_r, tyO_1, tyO_2, tyO_3, tyO_4, y_n, y_b, y_i, y_s, y_t, y_l, y_d, y_o, y_o1, y_o2, y_o3, y_o4, y_o5, y_o6, w_t, w_s, w_r, w_e, w_zs, w_zt, List.map_cons, List.map_nil, List.replicate_succ, List.replicate_zero, List.cons_append, List.nil_append, List.append_nil, List.set_cons_zero, List.set_cons_succ, List.any_cons, List.any_nil, List.lookup_cons_self, meT, reduceCtorEq, decide_true, decide_false, Bool.or_false, Bool.false_or, Bool.or_true, Bool.true_or, Bool.not_true, Bool.not_false, Bool.and_true, Bool.true_and, Bool.and_false, Bool.false_and, true_and, and_true, wipeE, Option.isSome_some, Option.isSome_none, List.getElem?_concat_length, Nat.reduceBEq, Int.reduceEq, Int.reduceLT, Int.reduceLE, Int.reduceNeg, glo_0, glo_1, glo_2, glo_3, glo_4, glo_5, glo_6, glo_7, glo_8, konn_0, konq_0_0, konq_0_1, konq_0_2, konq_0_3, konq_0_4, konq_0_5, konq_0_6, konq_0_7, alt_0, alt_1, alt_2, alt_3, alt_4, alt_5, alt_6, alt_7, alt_8, exf_0, exf_1, exf_2, exf_3, exf_4, exf_5, c_PastError, c_NoName, c_NoState, c_HasCoins, c_NoVault, c_NoRow, c_Body, c_Walk, c_Vault, d_size_row, d_choice_table, d_coined, d_used, d_trace, d_cells, d_result, d_begin, d_deed_row, d_coin_count, d_row_count, d_many_cells, d_body_table, d_coins, d_held, d_cell_row, d_part, d_index])
theorem ledfrom {k v g : Nat} {V : Vt} {s : List Nat} {r : List (Dd × Nat)} {st : Store} {Q : QE} {X : QX} (hv : IsV st v V) (hs : V.st s) (hr : RowOf V r) (eg : st[g]? = some (.lst (r.map callP))) (hq : ∀ s', Keep st s' → Q (stD (pastV V s r).2) s') : Call T (k + 48) n_led_from [.ref v, stD s, .ref g] st Q X := by
  refine call_z f_led_from.fn rfl rfl ?_
  show wpB T (Call T (k + 47)) none b_led_from [some (.ref v), some (stD s), some (.ref g), none] st _
  unfold b_led_from
  simp! [eg]
  refine for_l (ds := r.map callP) (fun rest env s' => ∃ (t : List Nat) (ps : List (Dd × Nat)) (q3 : Option D), rest = ps.map callP ∧ (∀ p ∈ ps, p ∈ r) ∧ V.st t ∧ (pastV V t ps).2 = (pastV V s r).2 ∧ Keep st s' ∧ env = [some (.ref v), some (stD t), some (.ref g), q3]) ⟨s, r, none, rfl, fun _ m => m, hs, rfl, .refl _, rfl⟩ (fun rest env s' ⟨t, ps, q3, e1, e2, e3, e4, e5, e6⟩ => by rw [e5.get eg]; rfl) (fun d rest env s' N ⟨t, ps, q3, e1, e2, e3, e4, e5, e6⟩ hN => ?_) (fun env s' ⟨t, ps, q3, e1, e2, e3, e4, e5, e6⟩ => ?_)
  · subst e6
    cases ps with
    | nil => cases e1
    | cons p ps =>
      cases e1
      have cal := hr p (e2 p List.mem_cons_self)
      have hL : ∀ c ∈ ([] : List Int), c = 0 ∨ c = 1 := fun c m => by cases m
      simp!
      refine run_ (k := k) (L := []) (x := p.1) (n := p.2) ((hv.keep e5).keep (.new _ _)) e3 cal hL (.inl ⟨_, rfl, get_snoc _ _⟩) fun s2 tr kp _ _ => ?_
      simp!
      exact hN _ _ ⟨_, ps, _, rfl, fun q m => e2 q (List.mem_cons_of_mem _ m), runW_st hv.ok hL e3 cal, e4, e5.trans ((Keep.new _ _).trans kp), rfl⟩
  · subst e6
    cases ps with
    | cons p ps => cases e1
    | nil =>
      simp!
      rw [show stD t = stD (pastV V s r).2 from by rw [← e4]; rfl]
      exact hq s' e5
theorem led_ {k v g : Nat} {V : Vt} {r : List (Dd × Nat)} {st : Store} {Q : QE} {X : QX} (hv : IsV st v V) (hn : NoCoin V) (hr : RowOf V r) (eg : st[g]? = some (.lst (r.map callP))) (hq : ∀ s', Keep st s' → Q (stD (pastV V V.begin r).2) s') : Call T (k + 49) n_led [.ref v, .ref g] st Q X := by
  refine call_z f_led.fn rfl rfl ?_
  show wpB T (Call T (k + 48)) none b_led [some (.ref v), some (.ref g)] st _
  unfold b_led
  have hb := begin_st hv.ok
  have h1 := hv.at_
  obtain ⟨ct, bt, h1, h2, h3⟩ := h1
  unfold Vt.o at h1
  simp!
  refine checkplain (k := k + 47) hv hn ?_
  simp!
  refine checkrow (k := k + 44) hv hr eg ?_
  simp! [h1]
  have eb : (D.tup (V.cells.map fun c : Nat × Nat => D.int c.2)) = stD V.begin := by unfold stD Vt.begin; rw [List.map_map]; rfl
  rw [eb]
  refine ledfrom (k := k) hv hb hr eg fun s' kp => ?_
  simp!
  exact hq s' kp
theorem answered_ {k v g : Nat} {V : Vt} {r : List (Dd × Nat)} {st : Store} {Q : QE} {X : QX} (hv : IsV st v V) (hn : NoCoin V) (hr : RowOf V r) (rl : r.length ≤ 1000000) (eg : st[g]? = some (.lst (r.map callP))) (hq : ∀ s' h, Keep st s' → st.length ≤ h → s'[h]? = some (.lst ((pastV V V.begin r).1.map D.int)) → Q (.ref h) s') : Call T (k + 48) n_answered [.ref v, .ref g] st Q X := by
  refine call_z f_answered.fn rfl rfl ?_
  show wpB T (Call T (k + 47)) none b_answered [some (.ref v), some (.ref g), none, none, none, none] st _
  unfold b_answered
  have hb := begin_st hv.ok
  have h1 := hv.at_
  obtain ⟨ct, bt, h1, h2, h3⟩ := h1
  unfold Vt.o at h1
  simp!
  refine checkplain (k := k + 46) hv hn ?_
  simp!
  refine checkrow (k := k + 43) hv hr eg ?_
  have h1' := get_app [O.lst []] h1
  have eg' := get_app [O.lst []] eg
  simp! [h1', eg']
  have eb : (D.tup (V.cells.map fun c : Nat × Nat => D.int c.2)) = stD V.begin := by unfold stD Vt.begin; rw [List.map_map]; rfl
  rw [eb]
  refine for_l (ds := r.map callP) (fun rest env s' => ∃ (t : List Nat) (as : List Int) (ps : List (Dd × Nat)) (q4 q5 : Option D), rest = ps.map callP ∧ (∀ p ∈ ps, p ∈ r) ∧ V.st t ∧ as ++ (pastV V t ps).1 = (pastV V V.begin r).1 ∧ s'[st.length]? = some (.lst (as.map D.int)) ∧ Keep st s' ∧ env = [some (.ref v), some (.ref g), some (.ref st.length), some (stD t), q4, q5]) ⟨V.begin, [], r, none, none, rfl, fun _ m => m, hb, rfl, get_snoc _ _, .new _ _, rfl⟩ (fun rest env s' ⟨t, as, ps, q4, q5, e1, e2, e3, e4, e5, e6, e7⟩ => by rw [e6.get eg]; rfl) (fun d rest env s' N ⟨t, as, ps, q4, q5, e1, e2, e3, e4, e5, e6, e7⟩ hN => ?_) (fun env s' ⟨t, as, ps, q4, q5, e1, e2, e3, e4, e5, e6, e7⟩ => ?_)
  · subst e7
    cases ps with
    | nil => cases e1
    | cons p ps =>
      cases e1
      have cal := hr p (e2 p List.mem_cons_self)
      have hL : ∀ c ∈ ([] : List Int), c = 0 ∨ c = 1 := fun c m => by cases m
      simp!
      refine run_ (k := k) (L := []) (x := p.1) (n := p.2) ((hv.keep e6).keep (.new _ _)) e3 cal hL (.inl ⟨_, rfl, get_snoc _ _⟩) fun s2 tr kp _ _ => ?_
      have kp := (Keep.new s' [O.lst []]).trans kp
      have e5' := kp.get e5
      simp! [e5']
      have e4' : (as ++ [ansOf (runW V [] t p.1 p.2)]) ++ (pastV V (runW V [] t p.1 p.2).2.cells ps).1 = (pastV V V.begin r).1 := by rw [← e4, List.append_assoc]; rfl
      refine ⟨lt_line ?_, hN _ _ ⟨_, as ++ [ansOf (runW V [] t p.1 p.2)], ps, _, _, rfl, fun q m => e2 q (List.mem_cons_of_mem _ m), runW_st hv.ok hL e3 cal, e4', ?_, (e6.trans kp).set _ (Nat.le_refl _), rfl⟩⟩
      · rw [List.length_map]
        have := congrArg List.length e4
        rw [List.length_append, pastV_len, pastV_len] at this
        omega
      · rw [set_get e5', List.map_append]
        rfl
  · subst e7
    cases ps with
    | cons p ps => cases e1
    | nil =>
      have e4 : as ++ [] = (pastV V V.begin r).1 := e4
      rw [List.append_nil] at e4
      simp!
      exact hq s' _ e6 (Nat.le_refl _) (by rw [e5, e4])
end Y.K_k12
set_option linter.all false
set_option maxHeartbeats 1600000
set_option maxRecDepth 100000
namespace Y.K_k12
open Y PySem
local macro_rules
  | `(tactic| simp! [$ls,*]) => `(tactic| simp (implicitDefEqProofs := false) (dsimp := false) (failIfUnchanged := false) only [lz1, z_ifT, z_ifF, k_c0, k_c1, k_c2, k_c3, k_c4, k_c5, k_c6, k_few0, k_fewS, k_lkm, k_pf0, k_pfh, k_pfm, k_cls, k_clsO, ks_nx, ks_rt, ks_bk, ks_ct, ks_xc, kl_nx, kl_rt, kl_bk, kl_ct, kl_xc, kc_nx, kc_rt, kc_xc, kt_nx, kt_rt, kt_bk, kt_ct, kt_xc, kh_nx, kh_rt, un_n, un_s, isNon_1, isNon_2, isNon_3, isNon_4, isNon_5, isNon_6, isNon_7, boolQ_1, intQ_1, optQ_1, lstQ_1, sqQ_1, sqQ_2, cntQ_1, cntQ_2, cntQ_3, dicQ_1, insQ_1, getIx_0, getIx_1, getIx_2, getIx_3, getIx_4, getIx_5, ixrQ_1, ixrQ_2, ixrQ_3, ixrQ_4, setIx_0, setIx_1, setIx_2, bindQ_nm, bindL_0, bindL_1, bindQ_tp, z_var, z_con, z_glo, z_bin, z_neg, z_cmp, z_chain, z_isN, z_notN, z_and, z_or, z_not, z_ife, z_call, z_make, methQ_1, z_meth, z_fld, z_pr, z_me, z_isi, z_idx, z_sli, z_abs0, z_tup, z_lst, z_dic, z_dcomp, z_fstr, z_efld, z_eisi, z_comp, z_Tcmp, z_Tchain, z_TisN, z_TnotN, z_Tand, z_Tor, z_Tnot, z_Ttv, z_nil, z_cons, z_Fnil, z_Fcons, z_Tsn, z_Ts1, z_rng1, int2Q_1, z_rng2, z_enm, z_zip, z_sq, z_Bnil, z_Bcons, z_asg, z_asgt, z_asg2, z_setf, z_seti, augQ_1, augQ_2, z_augn, z_augf, z_exp, z_ret, z_retN, z_if, z_for, z_whl, z_brk, z_cnt, z_pas, z_rais0, z_rais1, z_try, z_Hnil, z_Hcons, v_v0, v_vs, v_add, v_sub, v_mul, v_fdiv, v_mod, v_pow, v_sadd, v_tadd, v_ladd, v_lmul, v_int, v_intb, v_abs, v_max2, v_min2, v_stri, v_lens, v_lenm, v_len0, v_len1, v_len2, v_len3, v_len4, v_len5, v_len6, v_lenr, v_tupt, v_tupr, v_lstt, v_lstr, v_any, v_all, v_ixt, v_ixr, v_kon, v_seti, strQ_1, strQ_2, strQ_3, v_pts, v_ptn, v_sls, v_slt, v_slr, v_fld, v_setf, v_okl, v_oks, v_app, v_pop, v_lt, v_le, v_gt, v_ge, v_eq, v_ne, v_in, v_ni, v_eqii, v_eqss, v_eqbb, v_eqsi, v_eqis, v_eqni, v_eqin, v_eqns, v_eqsn, v_trn, v_trb, v_tri, v_trt, v_trr, v_trs, v_fms, v_fmi, v_inp, inrQ_1, inrQ_2, inrQ_3, v_inl, v_inK, v_ins, t_n, t_b, t_i, t_s, t_t, t_r, tyO_1, tyO_2, tyO_3, tyO_4, y_n, y_b, y_i, y_s, y_t, y_l, y_d, y_o, y_o1, y_o2, y_o3, y_o4, y_o5, y_o6, w_t, w_s, w_r, w_e, w_zs, w_zt, List.map_cons, List.map_nil, List.replicate_succ, List.replicate_zero, List.cons_append, List.nil_append, List.append_nil, List.set_cons_zero, List.set_cons_succ, List.any_cons, List.any_nil, List.lookup_cons_self, meT, reduceCtorEq, decide_true, decide_false, Bool.or_false, Bool.false_or, Bool.or_true, Bool.true_or, Bool.not_true, Bool.not_false, Bool.and_true, Bool.true_and, Bool.and_false, Bool.false_and, true_and, and_true, wipeE, Option.isSome_some, Option.isSome_none, List.getElem?_concat_length, Nat.reduceBEq, Int.reduceEq, Int.reduceLT, Int.reduceLE, Int.reduceNeg, glo_0, glo_1, glo_2, glo_3, glo_4, glo_5, glo_6, glo_7, glo_8, konn_0, konq_0_0, konq_0_1, konq_0_2, konq_0_3, konq_0_4, konq_0_5, konq_0_6, konq_0_7, alt_0, alt_1, alt_2, alt_3, alt_4, alt_5, alt_6, alt_7, alt_8, exf_0, exf_1, exf_2, exf_3, exf_4, exf_5, c_PastError, c_NoName, c_NoState, c_HasCoins, c_NoVault, c_NoRow, c_Body, c_Walk, c_Vault, d_size_row, d_choice_table, d_coined, d_used, d_trace, d_cells, d_result, d_begin, d_deed_row, d_coin_count, d_row_count, d_many_cells, d_body_table, d_coins, d_held, d_cell_row, d_part, d_index, $ls,*])
local macro_rules
  | `(tactic| simp!) => `(tactic| simp (implicitDefEqProofs := false) (dsimp := false) (failIfUnchanged := false) only [lz1, z_ifT, z_ifF, k_c0, k_c1, k_c2, k_c3, k_c4, k_c5, k_c6, k_few0, k_fewS, k_lkm, k_pf0, k_pfh, k_pfm, k_cls, k_clsO, ks_nx, ks_rt, ks_bk, ks_ct, ks_xc, kl_nx, kl_rt, kl_bk, kl_ct, kl_xc, kc_nx, kc_rt, kc_xc, kt_nx, kt_rt, kt_bk, kt_ct, kt_xc, kh_nx, kh_rt, un_n, un_s, isNon_1, isNon_2, isNon_3, isNon_4, isNon_5, isNon_6, isNon_7, boolQ_1, intQ_1, optQ_1, lstQ_1, sqQ_1, sqQ_2, cntQ_1, cntQ_2, cntQ_3, dicQ_1, insQ_1, getIx_0, getIx_1, getIx_2, getIx_3, getIx_4, getIx_5, ixrQ_1, ixrQ_2, ixrQ_3, ixrQ_4, setIx_0, setIx_1, setIx_2, bindQ_nm, bindL_0, bindL_1, bindQ_tp, z_var, z_con, z_glo, z_bin, z_neg, z_cmp, z_chain, z_isN, z_notN, z_and, z_or, z_not, z_ife, z_call, z_make, methQ_1, z_meth, z_fld, z_pr, z_me, z_isi, z_idx, z_sli, z_abs0, z_tup, z_lst, z_dic, z_dcomp, z_fstr, z_efld, z_eisi, z_comp, z_Tcmp, z_Tchain, z_TisN, z_TnotN, z_Tand, z_Tor, z_Tnot, z_Ttv, z_nil, z_cons, z_Fnil, z_Fcons, z_Tsn, z_Ts1, z_rng1, int2Q_1, z_rng2, z_enm, z_zip, z_sq, z_Bnil, z_Bcons, z_asg, z_asgt, z_asg2, z_setf, z_seti, augQ_1, augQ_2, z_augn, z_augf, z_exp, z_ret, z_retN, z_if, z_for, z_whl, z_brk, z_cnt, z_pas, z_rais0, z_rais1, z_try, z_Hnil, z_Hcons, v_v0, v_vs, v_add, v_sub, v_mul, v_fdiv, v_mod, v_pow, v_sadd, v_tadd, v_ladd, v_lmul, v_int, v_intb, v_abs, v_max2, v_min2, v_stri, v_lens, v_lenm, v_len0, v_len1, v_len2, v_len3, v_len4, v_len5, v_len6, v_lenr, v_tupt, v_tupr, v_lstt, v_lstr, v_any, v_all, v_ixt, v_ixr, v_kon, v_seti, strQ_1, strQ_2, strQ_3, v_pts, v_ptn, v_sls, v_slt, v_slr, v_fld, v_setf, v_okl, v_oks, v_app, v_pop, v_lt, v_le, v_gt, v_ge, v_eq, v_ne, v_in, v_ni, v_eqii, v_eqss, v_eqbb, v_eqsi, v_eqis, v_eqni, v_eqin, v_eqns, v_eqsn, v_trn, v_trb, v_tri, v_trt, v_trr, v_trs, v_fms, v_fmi, v_inp, inrQ_1, inrQ_2, inrQ_3, v_inl, v_inK, v_ins, t_n, t_b, t_i, t_s, t_t, t_r, tyO_1, tyO_2, tyO_3, tyO_4, y_n, y_b, y_i, y_s, y_t, y_l, y_d, y_o, y_o1, y_o2, y_o3, y_o4, y_o5, y_o6, w_t, w_s, w_r, w_e, w_zs, w_zt, List.map_cons, List.map_nil, List.replicate_succ, List.replicate_zero, List.cons_append, List.nil_append, List.append_nil, List.set_cons_zero, List.set_cons_succ, List.any_cons, List.any_nil, List.lookup_cons_self, meT, reduceCtorEq, decide_true, decide_false, Bool.or_false, Bool.false_or, Bool.or_true, Bool.true_or, Bool.not_true, Bool.not_false, Bool.and_true, Bool.true_and, Bool.and_false, Bool.false_and, true_and, and_true, wipeE, Option.isSome_some, Option.isSome_none, List.getElem?_concat_length, Nat.reduceBEq, Int.reduceEq, Int.reduceLT, Int.reduceLE, Int.reduceNeg, glo_0, glo_1, glo_2, glo_3, glo_4, glo_5, glo_6, glo_7, glo_8, konn_0, konq_0_0, konq_0_1, konq_0_2, konq_0_3, konq_0_4, konq_0_5, konq_0_6, konq_0_7, alt_0, alt_1, alt_2, alt_3, alt_4, alt_5, alt_6, alt_7, alt_8, exf_0, exf_1, exf_2, exf_3, exf_4, exf_5, c_PastError, c_NoName, c_NoState, c_HasCoins, c_NoVault, c_NoRow, c_Body, c_Walk, c_Vault, d_size_row, d_choice_table, d_coined, d_used, d_trace, d_cells, d_result, d_begin, d_deed_row, d_coin_count, d_row_count, d_many_cells, d_body_table, d_coins, d_held, d_cell_row, d_part, d_index])
theorem calls_of_ds {xs : List Dd} : ∀ {ds : List D}, (∀ d ∈ ds, CallD xs d) → ∃ ps : List (Dd × Nat), ds = ps.map callP ∧ ∀ p ∈ ps, p.1 ∈ xs ∧ p.2 < p.1.ch
  | [], _ => ⟨[], rfl, fun c h => by cases h⟩
  | d :: ds, h => by
    obtain ⟨x, n, hx, hn, rfl⟩ := h d List.mem_cons_self
    obtain ⟨ps, rfl, hp⟩ := calls_of_ds fun y m => h y (List.mem_cons_of_mem _ m)
    exact ⟨(x, n) :: ps, rfl, fun p m => by
      rcases List.mem_cons.mp m with z | z
      · rw [z]; exact ⟨hx, hn⟩
      · exact hp p z⟩
theorem lawrow {k h g : Nat} {m : Nat} {cl : List D} {st : Store} {Q : QE} {X : QX} (p : Pool h st) (eg : st[g]? = some (.lst cl)) (ng : g ≠ h) (c1 : 1 ≤ cl.length) (c12 : cl.length ≤ 1000) (hm : m ≤ 1000) (hq : ∀ (ds : List D) (s : Store), (∀ d ∈ ds, d ∈ cl) → ds.length ≤ m → s[st.length]? = some (.lst ds) → Ch h st s → Q (.ref st.length) s) : Call T (k + 2) n__law_row [.ref h, .ref g, .int m] st Q X := by
  refine call_z f__law_row.fn rfl rfl ?_
  show wpB T (Call T (k + 1)) none b__law_row [some (.ref h), some (.ref g), some (.int m), none, none] st _
  unfold b__law_row
  have ne : st.length ≠ h := Nat.ne_of_gt p.lt
  have c0 : Ch h st (st ++ [.lst []]) := (Ch.refl p).app
  simp!
  refine draw (by omega) (by omega) c0.pool fun v s1 v0 v1 _ c1' => ?_
  have e1 := c1'.get (get_snoc st (.lst [])) ne
  simp!
  refine ⟨by omega, by omega, ?_⟩
  have nb : v.toNat ≤ m := by omega
  generalize v.toNat = n at nb ⊢
  rw [rngD_rg]
  refine for_s (fun r env s => ∃ (i j : Nat) (ds : List D) (q4 : Option D), i + j = n ∧ r = rg i j ∧ ds.length = i ∧ (∀ d ∈ ds, d ∈ cl) ∧ s[st.length]? = some (.lst ds) ∧ Ch h st s ∧ env = [some (.ref h), some (.ref g), some (.int m), some (.ref st.length), q4]) ⟨0, n, [], none, by omega, rfl, rfl, (fun d m => by cases m), e1, c0.trans c1', rfl⟩ (fun d r env s N ⟨i, j, ds, q4, a1, a2, a3, a4, a5, a6, a7⟩ hN => ?_) (fun env s ⟨i, j, ds, q4, a1, a2, a3, a4, a5, a6, a7⟩ => ?_)
  · subst a7
    cases j with
    | zero => cases a2
    | succ j =>
      rw [rg_succ] at a2
      cases a2
      simp! [a6.get eg ng, a5]
      refine draw (by omega) (by omega) a6.pool fun w s2 w0 w1 _ c2 => ?_
      obtain ⟨u, rfl⟩ : ∃ u : Nat, w = u := ⟨w.toNat, by omega⟩
      have ul : u < cl.length := by omega
      have a52 := c2.get a5 ne
      simp! [(a6.trans c2).get eg ng, getIx_n ul, a52]
      refine ⟨lt_line (by omega), hN _ _ ⟨i + 1, j, ds ++ [cl[u]], _, by omega, rfl, by simp [a3], fun d hd => ?_, set_get a52, (a6.trans c2).set ne (Nat.le_refl _), rfl⟩⟩
      rcases List.mem_append.mp hd with z | z
      · exact a4 d z
      · rw [List.mem_singleton.mp z]; exact List.getElem_mem ul
  · subst a7
    cases j with
    | succ j => rw [rg_succ] at a2; cases a2
    | zero =>
      simp!
      exact hq ds s a4 (by omega) a5 a6
theorem lawlongrow {k g : Nat} {ns : List Int} {cl : List D} {st : Store} {Q : QE} {X : QX} (h0 : st[0]? = some (.fro (ns.map D.int))) (hl : ns.length ≤ 63) (eg : st[g]? = some (.lst cl)) (c1 : 1 ≤ cl.length) (c12 : cl.length ≤ 1000) (hq : ∀ (ds : List D) (s : Store) (h : Nat), (∀ d ∈ ds, d ∈ cl) → ds.length ≤ 1000 → s[h]? = some (.lst ds) → Keep st s → st.length ≤ h → Q (.ref h) s) : Call T (k + 3) n__law_long_row [.ref 0, .ref g] st Q X := by
  refine call_z f__law_long_row.fn rfl rfl ?_
  show wpB T (Call T (k + 2)) none b__law_long_row [some (.ref 0), some (.ref g), none, none, none, none, none] st _
  unfold b__law_long_row
  have h01 := get_app [O.lst []] h0
  simp! [h01]
  have bnd : (if (61 : Int) < ((ns.map D.int).length : Int) then 61 else ((ns.map D.int).length : Int)) ≤ 61 := by split <;> omega
  have bnd2 : 0 ≤ (if (61 : Int) < ((ns.map D.int).length : Int) then 61 else ((ns.map D.int).length : Int)) := by split <;> omega
  generalize (if (61 : Int) < ((ns.map D.int).length : Int) then 61 else ((ns.map D.int).length : Int)) = top at bnd bnd2 ⊢
  refine ⟨⟨by decide, by decide, by omega, by omega⟩, ?_⟩
  have nb : (top - 1).toNat ≤ 60 := by omega
  generalize (top - 1).toNat = n at nb ⊢
  clear bnd bnd2
  rw [show rngD 1 n = rg 1 n from rngD_rg' 1 n]
  refine for_s (fun r env s => ∃ (i j : Nat) (ds : List D) (q3 : Option D), i + j = n + 1 ∧ 1 ≤ i ∧ r = rg i j ∧ ds.length + 1 = i ∧ (∀ d ∈ ds, d ∈ cl) ∧ s[st.length]? = some (.lst ds) ∧ Keep st s ∧ env = [some (.ref 0), some (.ref g), some (.ref st.length), q3, none, none, none]) ⟨1, n, [], none, by omega, Nat.le_refl _, rfl, rfl, (fun d m => by cases m), get_snoc _ _, .new _ _, rfl⟩ (fun d r env s N ⟨i, j, ds, q3, a1, a0, a2, a3, a4, a5, a6, a7⟩ hN => ?_) (fun env s ⟨i, j, ds, q3, a1, a0, a2, a3, a4, a5, a6, a7⟩ => ?_)
  · subst a7
    cases j with
    | zero => cases a2
    | succ j =>
      rw [rg_succ] at a2
      cases a2
      have lt := lt_of_get a5
      simp! [a5]
      refine pool (a6.get h0) hl ⟨by omega, by omega⟩ fun o p => ?_
      have egp := get_app [o] (a6.get eg)
      simp! [egp]
      refine draw (by omega) (by omega) p fun w s2 w0 w1 _ c2 => ?_
      have lg := lt_of_get (a6.get eg)
      have eg2 := c2.get egp (by omega)
      have a52 := c2.get (get_app [o] a5) (by omega)
      have kp : Keep s s2 := ⟨by have := c2.len; rw [List.length_append] at this; omega, fun g l => (c2.same g (by omega) (by rw [List.length_append]; omega)).trans (List.getElem?_append_left l)⟩
      obtain ⟨u, rfl⟩ : ∃ u : Nat, w = u := ⟨w.toNat, by omega⟩
      have ul : u < cl.length := by omega
      simp! [eg2, getIx_n ul, a52]
      refine ⟨lt_line (by omega), hN _ _ ⟨i + 1, j, ds ++ [cl[u]], _, by omega, by omega, rfl, by simp; omega, fun d hd => ?_, set_get a52, (a6.trans kp).set _ (Nat.le_refl _), rfl⟩⟩
      rcases List.mem_append.mp hd with z | z
      · exact a4 d z
      · rw [List.mem_singleton.mp z]; exact List.getElem_mem ul
  · subst a7
    cases j with
    | succ j => rw [rg_succ] at a2; cases a2
    | zero =>
      simp!
      refine pool (a6.get h0) hl (by decide) fun o p => ?_
      have egp := get_app [o] (a6.get eg)
      have a5p := get_app [o] a5
      have kp := a6.app [o]
      have lt := lt_of_get a5
      have lg := lt_of_get (a6.get eg)
      have np : st.length ≠ s.length := by omega
      have ngp : g ≠ s.length := by omega
      have lp : st.length ≤ s.length := by omega
      generalize s ++ [o] = s1 at p egp a5p kp ⊢
      generalize s.length = ph at p np ngp lp ⊢
      simp!
      have cl0 : Ch ph s1 (s1 ++ [O.lst [.int 5, .int 20, .int 55]]) := (Ch.refl p).app
      refine draw (by decide) (by decide) cl0.pool fun w s2 w0 w1 _ c2 => ?_
      have c02 := cl0.trans c2
      have eb := c2.get (get_snoc s1 (.lst [.int 5, .int 20, .int 55])) (by have := p.lt; omega)
      have look : ∀ {F : D → Prop}, (∀ m : Nat, m ≤ 55 → F (.int m)) → getIx [.int 5, .int 20, .int 55] w F := fun {F} hF => by
        have : w = 0 ∨ w = 1 ∨ w = 2 := by omega
        rcases this with e | e | e <;> subst e
        · rw [getIx_0]; exact hF 5 (by decide)
        · rw [getIx_1]; exact hF 20 (by decide)
        · rw [getIx_2]; exact hF 55 (by decide)
      simp! [eb]
      refine look fun m hm => ?_
      simp!
      refine draw (by decide) (by decide) c2.pool fun u s3 u0 u1 _ c3 => ?_
      have c03 := c02.trans c3
      simp!
      refine ⟨by omega, by omega, ?_⟩
      have nb2 : u.toNat ≤ 6 := by omega
      generalize u.toNat = n2 at nb2 ⊢
      rw [rngD_rg]
      have kp3 : ∀ {x : Store}, Ch ph s1 x → Keep st x := fun {x} c => ⟨Nat.le_trans kp.len c.len, fun g l => (c.same g (by omega) (by have := kp.len; omega)).trans (kp.same g l)⟩
      refine for_s (fun r env s => ∃ (i j h : Nat) (ds : List D) (q6 : Option D), i + j = n2 ∧ r = rg i j ∧ ds.length ≤ 60 + 55 * i ∧ (∀ d ∈ ds, d ∈ cl) ∧ s[h]? = some (.lst ds) ∧ Ch ph s1 s ∧ st.length ≤ h ∧ h ≠ ph ∧ env = [some (.ref 0), some (.ref g), some (.ref h), q3, some (.ref ph), some (.int m), q6]) ⟨0, n2, st.length, ds, none, by omega, rfl, by omega, a4, c03.get a5p np, c03, Nat.le_refl _, np, rfl⟩ (fun d r env s N ⟨i, j, h, ds, q6, b1, b2, b3, b4, b5, b6, b7, b8, b9⟩ hN => ?_) (fun env s ⟨i, j, h, ds, q6, b1, b2, b3, b4, b5, b6, b7, b8, b9⟩ => ?_)
      · subst b9
        cases j with
        | zero => cases b2
        | succ j =>
          rw [rg_succ] at b2
          cases b2
          simp!
          refine lawrow (k := k) b6.pool (b6.get egp ngp) ngp c1 c12 (by omega) fun es s4 em el ee c4 => ?_
          have b54 := c4.get b5 b8
          simp! [b54, ee]
          have l4 := c4.len
          have p4 := c4.pool.lt
          refine ⟨le_line (by omega), hN _ _ ⟨i + 1, j, s4.length, ds ++ es, _, by omega, rfl, by rw [List.length_append]; omega, fun d hd => ?_, get_snoc _ _, (b6.trans c4).app, ?_, by omega, rfl⟩⟩
          · rcases List.mem_append.mp hd with z | z
            · exact b4 d z
            · exact em d z
          · have := (kp3 (b6.trans c4)).len
            omega
      · subst b9
        cases j with
        | succ j => rw [rg_succ] at b2; cases b2
        | zero =>
          simp!
          exact hq ds s h b4 (by omega) b5 (kp3 b6) b7
theorem lawpast {k ch dh g : Nat} {V : Vt} {s : List Nat} {r : List (Dd × Nat)} {st : Store} {Q : QE} {X : QX} (vok : V.ok) (hs : V.st s) (hr : RowOf V r) (rl : r.length ≤ 1000) (ec : st[ch]? = some (.lst (V.cells.map cellD))) (ed : st[dh]? = some (.lst (V.deeds.map Dd.d))) (eg : st[g]? = some (.lst (r.map callP)))
    (hq : ∀ s' h, Keep st s' → st.length ≤ h → s'[h]? = some (.lst ((pastV V s r).1.map D.int)) → Q (.tup [.ref h, stD (pastV V s r).2]) s') : Call T (k + 24) n__law_past [.ref ch, .ref dh, stD s, .ref g] st Q X := by
  refine call_z f__law_past.fn rfl rfl ?_
  show wpB T (Call T (k + 23)) none b__law_past [some (.ref ch), some (.ref dh), some (stD s), some (.ref g), none, none, none, none] st _
  unfold b__law_past
  have eg' := get_app [O.lst []] eg
  simp! [eg']
  refine for_l (ds := r.map callP) (fun rest env s' => ∃ (t : List Nat) (as : List Int) (ps : List (Dd × Nat)) (q6 q7 : Option D), rest = ps.map callP ∧ (∀ p ∈ ps, p ∈ r) ∧ V.st t ∧ as ++ (pastV V t ps).1 = (pastV V s r).1 ∧ (pastV V t ps).2 = (pastV V s r).2 ∧ s'[st.length]? = some (.lst (as.map D.int)) ∧ Keep st s' ∧ env = [some (.ref ch), some (.ref dh), some (stD s), some (.ref g), some (.ref st.length), some (stD t), q6, q7]) ⟨s, [], r, none, none, rfl, fun _ m => m, hs, rfl, rfl, get_snoc _ _, .new _ _, rfl⟩ (fun rest env s' ⟨t, as, ps, q6, q7, e1, e2, e3, e4, e4', e5, e6, e7⟩ => by rw [e6.get eg]; rfl) (fun d rest env s' N ⟨t, as, ps, q6, q7, e1, e2, e3, e4, e4', e5, e6, e7⟩ hN => ?_) (fun env s' ⟨t, as, ps, q6, q7, e1, e2, e3, e4, e4', e5, e6, e7⟩ => ?_)
  · subst e7
    cases ps with
    | nil => cases e1
    | cons p ps =>
      cases e1
      have cal := hr p (e2 p List.mem_cons_self)
      have hL : ∀ c ∈ ([] : List Int), c = 0 ∨ c = 1 := fun c m => by cases m
      have kp1 := e6.app [O.lst []]
      simp!
      refine lawcall (k := k) (L := []) (s := t) (x := p.1) (n := p.2) vok e3 cal hL (kp1.get ec) (kp1.get ed) (get_snoc _ _) fun s2 th kp _ _ => ?_
      have kp := (Keep.new s' [O.lst []]).trans kp
      have e5' := kp.get e5
      simp! [e5']
      have e4'' : (as ++ [ansOf (runW V [] t p.1 p.2)]) ++ (pastV V (runW V [] t p.1 p.2).2.cells ps).1 = (pastV V s r).1 := by rw [← e4, List.append_assoc]; rfl
      refine ⟨lt_line ?_, hN _ _ ⟨_, as ++ [ansOf (runW V [] t p.1 p.2)], ps, _, _, rfl, fun q m => e2 q (List.mem_cons_of_mem _ m), runW_st vok hL e3 cal, e4'', e4', ?_, (e6.trans kp).set _ (Nat.le_refl _), rfl⟩⟩
      · rw [List.length_map]
        have := congrArg List.length e4
        rw [List.length_append, pastV_len, pastV_len] at this
        omega
      · rw [set_get e5', List.map_append]
        rfl
  · subst e7
    cases ps with
    | cons p ps => cases e1
    | nil =>
      have e4 : as ++ [] = (pastV V s r).1 := e4
      rw [List.append_nil] at e4
      simp!
      rw [show stD t = stD (pastV V s r).2 from by rw [← e4']; rfl]
      exact hq s' _ e6 (Nat.le_refl _) (by rw [e5, e4])
end Y.K_k12
set_option linter.all false
set_option maxHeartbeats 1600000
set_option maxRecDepth 100000
namespace Y.K_k12
open Y PySem
local macro_rules
  | `(tactic| simp! [$ls,*]) => `(tactic| simp (implicitDefEqProofs := false) (dsimp := false) (failIfUnchanged := false) only [lz1, z_ifT, z_ifF, k_c0, k_c1, k_c2, k_c3, k_c4, k_c5, k_c6, k_few0, k_fewS, k_lkm, k_pf0, k_pfh, k_pfm, k_cls, k_clsO, ks_nx, ks_rt, ks_bk, ks_ct, ks_xc, kl_nx, kl_rt, kl_bk, kl_ct, kl_xc, kc_nx, kc_rt, kc_xc, kt_nx, kt_rt, kt_bk, kt_ct, kt_xc, kh_nx, kh_rt, un_n, un_s, isNon_1, isNon_2, isNon_3, isNon_4, isNon_5, isNon_6, isNon_7, boolQ_1, intQ_1, optQ_1, lstQ_1, sqQ_1, sqQ_2, cntQ_1, cntQ_2, cntQ_3, dicQ_1, insQ_1, getIx_0, getIx_1, getIx_2, getIx_3, getIx_4, getIx_5, ixrQ_1, ixrQ_2, ixrQ_3, ixrQ_4, setIx_0, setIx_1, setIx_2, bindQ_nm, bindL_0, bindL_1, bindQ_tp, z_var, z_con, z_glo, z_bin, z_neg, z_cmp, z_chain, z_isN, z_notN, z_and, z_or, z_not, z_ife, z_call, z_make, methQ_1, z_meth, z_fld, z_pr, z_me, z_isi, z_idx, z_sli, z_abs0, z_tup, z_lst, z_dic, z_dcomp, z_fstr, z_efld, z_eisi, z_comp, z_Tcmp, z_Tchain, z_TisN, z_TnotN, z_Tand, z_Tor, z_Tnot, z_Ttv, z_nil, z_cons, z_Fnil, z_Fcons, z_Tsn, z_Ts1, z_rng1, int2Q_1, z_rng2, z_enm, z_zip, z_sq, z_Bnil, z_Bcons, z_asg, z_asgt, z_asg2, z_setf, z_seti, augQ_1, augQ_2, z_augn, z_augf, z_exp, z_ret, z_retN, z_if, z_for, z_whl, z_brk, z_cnt, z_pas, z_rais0, z_rais1, z_try, z_Hnil, z_Hcons, v_v0, v_vs, v_add, v_sub, v_mul, v_fdiv, v_mod, v_pow, v_sadd, v_tadd, v_ladd, v_lmul, v_int, v_intb, v_abs, v_max2, v_min2, v_stri, v_lens, v_lenm, v_len0, v_len1, v_len2, v_len3, v_len4, v_len5, v_len6, v_lenr, v_tupt, v_tupr, v_lstt, v_lstr, v_any, v_all, v_ixt, v_ixr, v_kon, v_seti, strQ_1, strQ_2, strQ_3, v_pts, v_ptn, v_sls, v_slt, v_slr, v_fld, v_setf, v_okl, v_oks, v_app, v_pop, v_lt, v_le, v_gt, v_ge, v_eq, v_ne, v_in, v_ni, v_eqii, v_eqss, v_eqbb, v_eqsi, v_eqis, v_eqni, v_eqin, v_eqns, v_eqsn, v_trn, v_trb, v_tri, v_trt, v_trr, v_trs, v_fms, v_fmi, v_inp, inrQ_1, inrQ_2, inrQ_3, v_inl, v_inK, v_ins, t_n, t_b, t_i, t_s, t_t, t_r, tyO_1, tyO_2, tyO_3, tyO_4, y_n, y_b, y_i, y_s, y_t, y_l, y_d, y_o, y_o1, y_o2, y_o3, y_o4, y_o5, y_o6, w_t, w_s, w_r, w_e, w_zs, w_zt, List.map_cons, List.map_nil, List.replicate_succ, List.replicate_zero, List.cons_append, List.nil_append, List.append_nil, List.set_cons_zero, List.set_cons_succ, List.any_cons, List.any_nil, List.lookup_cons_self, meT, reduceCtorEq, decide_true, decide_false, Bool.or_false, Bool.false_or, Bool.or_true, Bool.true_or, Bool.not_true, Bool.not_false, Bool.and_true, Bool.true_and, Bool.and_false, Bool.false_and, true_and, and_true, wipeE, Option.isSome_some, Option.isSome_none, List.getElem?_concat_length, Nat.reduceBEq, Int.reduceEq, Int.reduceLT, Int.reduceLE, Int.reduceNeg, glo_0, glo_1, glo_2, glo_3, glo_4, glo_5, glo_6, glo_7, glo_8, konn_0, konq_0_0, konq_0_1, konq_0_2, konq_0_3, konq_0_4, konq_0_5, konq_0_6, konq_0_7, alt_0, alt_1, alt_2, alt_3, alt_4, alt_5, alt_6, alt_7, alt_8, exf_0, exf_1, exf_2, exf_3, exf_4, exf_5, c_PastError, c_NoName, c_NoState, c_HasCoins, c_NoVault, c_NoRow, c_Body, c_Walk, c_Vault, d_size_row, d_choice_table, d_coined, d_used, d_trace, d_cells, d_result, d_begin, d_deed_row, d_coin_count, d_row_count, d_many_cells, d_body_table, d_coins, d_held, d_cell_row, d_part, d_index, $ls,*])
local macro_rules
  | `(tactic| simp!) => `(tactic| simp (implicitDefEqProofs := false) (dsimp := false) (failIfUnchanged := false) only [lz1, z_ifT, z_ifF, k_c0, k_c1, k_c2, k_c3, k_c4, k_c5, k_c6, k_few0, k_fewS, k_lkm, k_pf0, k_pfh, k_pfm, k_cls, k_clsO, ks_nx, ks_rt, ks_bk, ks_ct, ks_xc, kl_nx, kl_rt, kl_bk, kl_ct, kl_xc, kc_nx, kc_rt, kc_xc, kt_nx, kt_rt, kt_bk, kt_ct, kt_xc, kh_nx, kh_rt, un_n, un_s, isNon_1, isNon_2, isNon_3, isNon_4, isNon_5, isNon_6, isNon_7, boolQ_1, intQ_1, optQ_1, lstQ_1, sqQ_1, sqQ_2, cntQ_1, cntQ_2, cntQ_3, dicQ_1, insQ_1, getIx_0, getIx_1, getIx_2, getIx_3, getIx_4, getIx_5, ixrQ_1, ixrQ_2, ixrQ_3, ixrQ_4, setIx_0, setIx_1, setIx_2, bindQ_nm, bindL_0, bindL_1, bindQ_tp, z_var, z_con, z_glo, z_bin, z_neg, z_cmp, z_chain, z_isN, z_notN, z_and, z_or, z_not, z_ife, z_call, z_make, methQ_1, z_meth, z_fld, z_pr, z_me, z_isi, z_idx, z_sli, z_abs0, z_tup, z_lst, z_dic, z_dcomp, z_fstr, z_efld, z_eisi, z_comp, z_Tcmp, z_Tchain, z_TisN, z_TnotN, z_Tand, z_Tor, z_Tnot, z_Ttv, z_nil, z_cons, z_Fnil, z_Fcons, z_Tsn, z_Ts1, z_rng1, int2Q_1, z_rng2, z_enm, z_zip, z_sq, z_Bnil, z_Bcons, z_asg, z_asgt, z_asg2, z_setf, z_seti, augQ_1, augQ_2, z_augn, z_augf, z_exp, z_ret, z_retN, z_if, z_for, z_whl, z_brk, z_cnt, z_pas, z_rais0, z_rais1, z_try, z_Hnil, z_Hcons, v_v0, v_vs, v_add, v_sub, v_mul, v_fdiv, v_mod, v_pow, v_sadd, v_tadd, v_ladd, v_lmul, v_int, v_intb, v_abs, v_max2, v_min2, v_stri, v_lens, v_lenm, v_len0, v_len1, v_len2, v_len3, v_len4, v_len5, v_len6, v_lenr, v_tupt, v_tupr, v_lstt, v_lstr, v_any, v_all, v_ixt, v_ixr, v_kon, v_seti, strQ_1, strQ_2, strQ_3, v_pts, v_ptn, v_sls, v_slt, v_slr, v_fld, v_setf, v_okl, v_oks, v_app, v_pop, v_lt, v_le, v_gt, v_ge, v_eq, v_ne, v_in, v_ni, v_eqii, v_eqss, v_eqbb, v_eqsi, v_eqis, v_eqni, v_eqin, v_eqns, v_eqsn, v_trn, v_trb, v_tri, v_trt, v_trr, v_trs, v_fms, v_fmi, v_inp, inrQ_1, inrQ_2, inrQ_3, v_inl, v_inK, v_ins, t_n, t_b, t_i, t_s, t_t, t_r, tyO_1, tyO_2, tyO_3, tyO_4, y_n, y_b, y_i, y_s, y_t, y_l, y_d, y_o, y_o1, y_o2, y_o3, y_o4, y_o5, y_o6, w_t, w_s, w_r, w_e, w_zs, w_zt, List.map_cons, List.map_nil, List.replicate_succ, List.replicate_zero, List.cons_append, List.nil_append, List.append_nil, List.set_cons_zero, List.set_cons_succ, List.any_cons, List.any_nil, List.lookup_cons_self, meT, reduceCtorEq, decide_true, decide_false, Bool.or_false, Bool.false_or, Bool.or_true, Bool.true_or, Bool.not_true, Bool.not_false, Bool.and_true, Bool.true_and, Bool.and_false, Bool.false_and, true_and, and_true, wipeE, Option.isSome_some, Option.isSome_none, List.getElem?_concat_length, Nat.reduceBEq, Int.reduceEq, Int.reduceLT, Int.reduceLE, Int.reduceNeg, glo_0, glo_1, glo_2, glo_3, glo_4, glo_5, glo_6, glo_7, glo_8, konn_0, konq_0_0, konq_0_1, konq_0_2, konq_0_3, konq_0_4, konq_0_5, konq_0_6, konq_0_7, alt_0, alt_1, alt_2, alt_3, alt_4, alt_5, alt_6, alt_7, alt_8, exf_0, exf_1, exf_2, exf_3, exf_4, exf_5, c_PastError, c_NoName, c_NoState, c_HasCoins, c_NoVault, c_NoRow, c_Body, c_Walk, c_Vault, d_size_row, d_choice_table, d_coined, d_used, d_trace, d_cells, d_result, d_begin, d_deed_row, d_coin_count, d_row_count, d_many_cells, d_body_table, d_coins, d_held, d_cell_row, d_part, d_index])
theorem az_small : ∀ c ∈ az, decide (c < 1114112) = true := by decide
theorem cleans_of {n : Nat} {ds : List D} (h : ∀ d ∈ ds, clean n d = true) : cleans n ds = true := by
  induction ds with
  | nil => cases n <;> rfl
  | cons d ds ih =>
    have : cleans n (d :: ds) = (clean n d && cleans n ds) := by cases n <;> rfl
    rw [this, h d List.mem_cons_self, ih fun x m => h x (List.mem_cons_of_mem _ m)]
    rfl
theorem clean_callP {V : Vt} (ok : V.ok) {r : List (Dd × Nat)} (hr : RowOf V r) : cleans 1 (r.map callP) = true := cleans_of fun d hd => by
  obtain ⟨p, hp, rfl⟩ := List.mem_map.mp hd
  have nm := (ok.deed p.1 (hr p hp).mem).nm
  show (clean 0 (.str p.1.nm) && (clean 0 (.int p.2) && true)) = true
  rw [show clean 0 (.str p.1.nm) = (p.1.nm.all fun c => decide (c < 1114112)) from rfl, List.all_eq_true.mpr fun c hc => az_small c (nm.az c hc)]
  rfl
theorem law {k : Nat} {ns : List Int} (hl : ns.length ≤ 63) : Call T (k + 61) n_law [.ref 0] (st0 ns) (fun d _ => d = .bl true) (fun _ _ => False) := by
  refine call_z f_law.fn rfl rfl ?_
  show wpB T (Call T (k + 60)) none b_law [some (.ref 0), none, none, none, none, none, none, none, none, none, none, none, none, none] (st0 ns) _
  unfold b_law
  simp!
  refine pool (st := st0 ns) rfl hl (by decide) fun o1 p1 => ?_
  have s0 : (st0 ns ++ [o1])[0]? = some (.fro (ns.map D.int)) := rfl
  generalize st0 ns ++ [o1] = st1 at p1 s0 ⊢
  rw [show (st0 ns).length = 1 from rfl] at p1 ⊢
  simp!
  refine draw (by decide) (by decide) p1 fun pl s2 v0 v1 _ c2 => ?_
  have s02 := c2.get s0 (by decide)
  have p2 := c2.pool
  clear p1 s0 c2
  simp!
  refine lawcells p2 fun cs s3 l1 l3 hcs _ ec c3 => ?_
  have s03 := c3.get s02 (by decide)
  have p3 := c3.pool
  have ne : s2.length ≠ 1 := Nat.ne_of_gt p2.lt
  have ne0 : s2.length ≠ 0 := by have := p2.lt; omega
  generalize s2.length = ch at ec ne ne0 ⊢
  clear c3 p2 s02
  simp! [ec, List.length_map]
  refine lawdeeds (k := k + 51) (coins := 0) l1 (by omega) p3 fun xs s4 d1 d4 hx nd ed c4 => ?_
  have s04 := c4.get s03 (by decide)
  have ec4 := c4.get ec ne
  have p4 := c4.pool
  generalize s3.length = dh at ed ⊢
  clear c4 p3 s03 ec
  have vok := drawn_ok l1 (by omega) (fun c m => by have := hcs c m; omega) d1 d4 hx nd (by decide)
  have hn : NoCoin ⟨cs, xs⟩ := fun x m => by have := (hx x m).body.coins; omega
  have ed' := get_app [O.lst (cs.map cellD)] ed
  simp! [ec4, ed']
  have kp0 : Keep s4 (s4 ++ [O.lst (cs.map cellD)] ++ [O.lst (xs.map Dd.d)]) := (Keep.new _ _).app _
  have e1 := get_snoc2 s4 [O.lst (xs.map Dd.d)] (O.lst (cs.map cellD))
  have e2 := get_snoc (s4 ++ [O.lst (cs.map cellD)]) (O.lst (xs.map Dd.d))
  generalize s4 ++ [O.lst (cs.map cellD)] ++ [O.lst (xs.map Dd.d)] = st2 at kp0 e1 e2 ⊢
  generalize (s4 ++ [O.lst (cs.map cellD)]).length = dh2 at e2 ⊢
  generalize s4.length = ch2 at e1 ⊢
  refine vinit (V := ⟨cs, xs⟩) (k := k + 9) vok (get_snoc _ _) (get_app _ e1) (get_app _ e2) fun s5 kb iv => ?_
  have s05 := kb.get (get_app [.ins c_Vault []] (kp0.get s04)) (by have := lt_of_get (kp0.get s04); omega)
  have ec5 := kb.get (get_app [.ins c_Vault []] (kp0.get ec4)) (by have := lt_of_get (kp0.get ec4); omega)
  have ed5 := kb.get (get_app [.ins c_Vault []] (kp0.get ed)) (by have := lt_of_get (kp0.get ed); omega)
  generalize st2.length = vh at iv ⊢
  clear kb kp0 e1 e2 s04 ec4 ed ed' p4
  simp! [ec5]
  refine cmp_map (f := cellD) (F := fun c : Nat × Nat => .int c.2) ec5 (by omega) (fun e s P h => ?_) (fun c hc t Q' kp hQ => ?_) ?_
  · simp!
    exact h
  · simp! [cellD]
    exact hQ
  have kp1 := Keep.new s5 [O.lst (cs.map fun c : Nat × Nat => D.int c.2)]
  have e6 := get_snoc s5 (O.lst (cs.map fun c : Nat × Nat => D.int c.2))
  have s06 := kp1.get s05
  have ec6 := kp1.get ec5
  have ed6 := kp1.get ed5
  have iv6 := iv.keep kp1
  clear kp1 s05 ec5 ed5 iv
  simp! [e6]
  rw [show (D.tup (cs.map fun c : Nat × Nat => D.int c.2)) = stD (⟨cs, xs⟩ : Vt).begin from by unfold stD Vt.begin; rw [List.map_map]; rfl]
  have hb := begin_st vok
  generalize hbe : (⟨cs, xs⟩ : Vt).begin = be at hb ⊢
  refine lawcalls (k := k + 59) ed6 d1 d4 hx fun cl s7 cl1 cl12 hcl ecl kp => ?_
  simp!
  refine lawlongrow (k := k + 57) (kp.get s06) hl ecl cl1 (by omega) fun ds s8 rh hds dl er kp2 rl => ?_
  obtain ⟨r, rfl, hr⟩ := calls_of_ds fun d m => hcl d (hds d m)
  have hro : RowOf ⟨cs, xs⟩ r := fun p m => ⟨(hr p m).1, (hr p m).2⟩
  rw [List.length_map] at dl
  have kp := kp.trans kp2
  have ec := kp.get ec6
  have ed := kp.get ed6
  have iv := iv6.keep kp
  clear kp kp2 ecl s06 ec6 ed6 iv6 hcl hds rl
  simp! [er, List.length_map]
  refine ⟨by omega, ?_⟩
  obtain ⟨n, hn1, hn2⟩ : ∃ n : Nat, pl % ((r.length : Int) + 1) = n ∧ n ≤ r.length := ⟨(pl % ((r.length : Int) + 1)).toNat, by have := Int.emod_nonneg pl (show ((r.length : Int) + 1) ≠ 0 by omega); omega, by have := Int.emod_lt_of_pos pl (show (0 : Int) < (r.length : Int) + 1 by omega); omega⟩
  rw [hn1]
  have rt : RowOf ⟨cs, xs⟩ (r.take n) := fun p m => hro p (List.mem_of_mem_take m)
  have rd : RowOf ⟨cs, xs⟩ (r.drop n) := fun p m => hro p (List.mem_of_mem_drop m)
  obtain ⟨pt1, pt2⟩ := pastV_take ⟨cs, xs⟩ be r n hn2
  have ct : cutL (r.map callP) none (some (n : Int)) = (r.take n).map callP := by rw [cut_take, List.map_take]
  have cd : cutL (r.map callP) (some (n : Int)) none = (r.drop n).map callP := by rw [cut_drop, List.map_drop]
  have lt_ : (r.take n).length ≤ 1000 := by rw [List.length_take]; omega
  have ld_ : (r.drop n).length ≤ 1000 := by rw [List.length_drop]; omega
  simp!
  refine lawpast (k := k + 36) (s := be) (V := ⟨cs, xs⟩) vok hb hro dl ec ed er fun s9 h9 kp9 l9 e9 => ?_
  simp! [kp9.get er, ct]
  have kp9' := kp9.app [O.lst ((r.take n).map callP)]
  refine lawpast (k := k + 36) (s := be) (V := ⟨cs, xs⟩) vok hb rt lt_ (kp9'.get ec) (kp9'.get ed) (get_snoc _ _) fun s10 h10 kp10 l10 e10 => ?_
  have kpA := (Keep.new s9 [O.lst ((r.take n).map callP)]).trans kp10
  have e9 := kpA.get e9
  have kp10 := kp9.trans kpA
  simp! [kp10.get er]
  have kpB := Keep.new s10 [O.lst (r.map callP)]
  have e9 := kpB.get e9
  have e10 := kpB.get e10
  have kpC := kp10.trans kpB
  have er := kpC.get er
  have ec := kpC.get ec
  have ed := kpC.get ed
  have iv := iv.keep kpC
  have e11 := get_snoc s10 (.lst (r.map callP))
  generalize s10 ++ [O.lst (r.map callP)] = s11 at e9 e10 e11 er ec ed iv ⊢
  generalize s10.length = h11 at e11 ⊢
  clear kp9 kp9' kp10 kpA kpB kpC l9 l10
  have hnV := hn
  refine answered_ (k := k + 12) iv hnV hro (by omega) e11 fun s12 h12 kp12 l12 e12 => ?_
  rw [hbe] at e12
  have pl1 : ∀ (t : List Nat) (q : List (Dd × Nat)), ∀ d ∈ (pastV ⟨cs, xs⟩ t q).1.map D.int, plain 0 d := fun t q d hd => by
    obtain ⟨c, _, rfl⟩ := List.mem_map.mp hd
    exact trivial
  have pll : ∀ (t : List Nat) (q : List (Dd × Nat)), q.length ≤ 1000 → ((pastV ⟨cs, xs⟩ t q).1.map D.int).length ≤ 1000000 := fun t q l => by rw [List.length_map, pastV_len]; omega
  have st9 := pastV_st vok r be hb hro
  have st10 := pastV_st vok (r.take n) be hb rt
  have pls : ∀ {t : List Nat}, (⟨cs, xs⟩ : Vt).st t → plain 1 (stD t) := fun {t} h => plain_st t (by have := h.1; have : t.length = cs.length := h.1; omega)
  simp!
  refine same_lst (n := 0) (k := k + 58) (pl1 _ _) (pll _ _ dl) (kp12.get e9) e12 ?_
  simp!
  refine led_ (k := k + 11) (iv.keep kp12) hnV hro (kp12.get e11) fun s13 kp13 => ?_
  rw [hbe]
  simp!
  refine same 1 _ (pls st9) (k + 58) _ _ _ ?_
  have kpA := kp12.trans kp13
  simp!
  refine eqQ_lists (n := 1) (m := 1) (kpA.get er) (kpA.get e11) (clean_callP vok hro) (clean_callP vok hro) (by decide) (by decide) ?_
  simp!
  have e12' := kp13.get e12
  simp! [e12']
  refine ⟨lt_line (by rw [List.length_map, pastV_len]; omega), ?_⟩
  have kpB := kpA.set (h := h12) (.lst ((pastV ⟨cs, xs⟩ be r).1.map D.int ++ [.int 3])) l12
  generalize s13.set h12 _ = s14 at kpB ⊢
  clear kpA kp12 kp13 e12 e12'
  simp! [kpB.get er, ct]
  have kpC := kpB.app [O.lst ((r.take n).map callP)]
  refine answered_ (k := k + 12) (iv.keep kpC) hnV rt (by omega) (get_snoc _ _) fun s15 h15 kp15 l15 e15 => ?_
  rw [hbe] at e15
  have kpD := kpC.trans kp15
  simp!
  refine same_lst (n := 0) (k := k + 58) (pl1 _ _) (pll _ _ lt_) (kpD.get e10) e15 ?_
  simp! [kpD.get er, ct]
  have kpE := kpD.app [O.lst ((r.take n).map callP)]
  refine led_ (k := k + 11) (iv.keep kpE) hnV rt (get_snoc _ _) fun s16 kp16 => ?_
  rw [hbe]
  have kpF := kpE.trans kp16
  simp!
  refine same 1 _ (pls st10) (k + 58) _ _ _ ?_
  simp!
  refine begun_ (k := k + 8) (iv.keep kpF) st10 fun s17 oh kp17 l17 iw => ?_
  have kpG := kpF.trans kp17
  have wb := with_begin (V := ⟨cs, xs⟩) (s := (pastV ⟨cs, xs⟩ be (r.take n)).2) st10.1
  have wz : ((⟨cs, xs⟩ : Vt).with (pastV ⟨cs, xs⟩ be (r.take n)).2).sz = (⟨cs, xs⟩ : Vt).sz := with_sz st10.1
  have hnW : NoCoin ((⟨cs, xs⟩ : Vt).with (pastV ⟨cs, xs⟩ be (r.take n)).2) := hn
  have rdW : RowOf ((⟨cs, xs⟩ : Vt).with (pastV ⟨cs, xs⟩ be (r.take n)).2) (r.drop n) := fun p m => ⟨(rd p m).mem, (rd p m).lt⟩
  clear kpB kpC kpD kpE kpF kp15 kp16 kp17 e15 l15
  have dr : cutL ((pastV ⟨cs, xs⟩ be r).1.map D.int) (some (n : Int)) none = (pastV ⟨cs, xs⟩ (pastV ⟨cs, xs⟩ be (r.take n)).2 (r.drop n)).1.map D.int := by rw [cut_drop, ← List.map_drop, pt1]
  simp! [kpG.get e9, dr]
  have e18 := get_snoc s17 (.lst ((pastV ⟨cs, xs⟩ (pastV ⟨cs, xs⟩ be (r.take n)).2 (r.drop n)).1.map D.int))
  have kpH := kpG.app [O.lst ((pastV ⟨cs, xs⟩ (pastV ⟨cs, xs⟩ be (r.take n)).2 (r.drop n)).1.map D.int)]
  have iw := iw.keep (Keep.new s17 [O.lst ((pastV ⟨cs, xs⟩ (pastV ⟨cs, xs⟩ be (r.take n)).2 (r.drop n)).1.map D.int)])
  generalize s17 ++ [O.lst ((pastV ⟨cs, xs⟩ (pastV ⟨cs, xs⟩ be (r.take n)).2 (r.drop n)).1.map D.int)] = s18 at e18 kpH iw ⊢
  generalize s17.length = h18 at e18 ⊢
  simp! [kpH.get er, cd]
  have kpI := kpH.app [O.lst ((r.drop n).map callP)]
  refine answered_ (k := k + 12) (iw.keep (.new _ _)) hnW rdW (by omega) (get_snoc _ _) fun s19 h19 kp19 l19 e19 => ?_
  rw [wb, pastV_sz wz] at e19
  have kpJ := kpI.trans kp19
  have iw := iw.keep ((Keep.new s18 [O.lst ((r.drop n).map callP)]).trans kp19)
  simp!
  refine same_lst (n := 0) (k := k + 58) (pl1 _ _) (pll _ _ ld_) (kp19.get (get_app _ e18)) e19 ?_
  simp! [kpJ.get er, cd]
  have kpK := kpJ.app [O.lst ((r.drop n).map callP)]
  refine led_ (k := k + 11) (iw.keep (.new _ _)) hnW rdW (get_snoc _ _) fun s20 kp20 => ?_
  rw [wb, pastV_sz wz, ← pt2]
  have kpL := kpK.trans kp20
  simp!
  refine same 1 _ (pls st9) (k + 58) _ _ _ ?_
  simp!
  have kpM := kpL.app [O.lst []]
  refine led_ (k := k + 11) (r := []) (iv.keep kpM) hnV (fun p m => by cases m) (get_snoc _ _) fun s21 kp21 => ?_
  rw [show stD (pastV ⟨cs, xs⟩ (⟨cs, xs⟩ : Vt).begin []).2 = stD be from by rw [← hbe]; rfl]
  have kpN := kpM.trans kp21
  simp!
  refine same 1 _ (pls hb) (k + 58) _ _ _ ?_
  simp!
  refine answered_ (k := k + 12) (iv.keep kpN) hnV hro (by omega) (kpN.get e11) fun s22 h22 kp22 l22 e22 => ?_
  rw [hbe] at e22
  have kpO := kpN.trans kp22
  simp!
  refine same_lst (n := 0) (k := k + 58) (pl1 _ _) (pll _ _ dl) (kpO.get e9) e22 ?_
  simp!
  have kpP := (kpO.app [O.lst []]).app [O.lst []]
  refine answered_ (k := k + 12) (r := []) (iv.keep kpP) hnV (fun p m => by cases m) (by decide) (get_snoc _ _) fun s23 h23 kp23 l23 e23 => ?_
  simp!
  refine same_nil (kp23.get (get_snoc2 _ _ _)) e23 ?_
  simp!
end Y.K_k12
set_option maxRecDepth 100000
set_option maxHeartbeats 0
open PySem PySem.W PySem.Calls PyProof.Rows
theorem PySem.Challenge.cw_pastless_k12_pasts_led_and_answered_holds : PySem.Challenge.rw_pastless_k12_pasts_led_and_answered.Holds := by
  w_on; o_law
  refine HandSHeadRun.head_any (r := OpenLaw.row PySem.Challenge.rw_pastless_k12_pasts_led_and_answered) (q := view (OpenLaw.row PySem.Challenge.rw_pastless_k12_pasts_led_and_answered).prog [61]) (H := Y.K_k12.hk) (ob := Y.K_k12.ob) (M := 20000) (loose := Y.K_k12.loose) (d := HandSHeadRun.topDef (OpenLaw.row PySem.Challenge.rw_pastless_k12_pasts_led_and_answered).prog 61) (kwd := []) Y.K_k12.ob_eq
    (by kernel_rfl) (fun s => by kernel_rfl) Y.K_k12.run (by kernel_rfl) (by kernel_rfl) (by kernel_rfl) (by rfl) (by first | assumption | decide +kernel) (by decide +kernel) ⟨rfl, rfl, rfl, rfl, rfl, by decide +kernel⟩ ?hw ?hc
  case hw => w_witness2
  case hc =>
    exact Y.walk_y (l := PySem.Challenge.rw_pastless_k12_pasts_led_and_answered) (m := 63) (k := 100) (x := "_law_script") Y.K_k12.L 38 (e := Y.K_k12.f_law) rfl (by decide) (by kernel_rfl) ⟨rfl, by decide, by decide⟩ Y.K_k12.stat rfl (by kernel_rfl) rfl rfl (fun w h y => Y.told_of y) fun ns hl => Y.K_k12.law hl
