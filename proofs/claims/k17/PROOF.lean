import PyProof.Rows.All
import Wide.All
import OpenK.AllK
import Wide.FinOn
import HandS.ForMost
import HandS.ForExc
import HandS.ExcInit
import HandS.ExcField
import HandS.Defaults
import HandS.IsInst
import HandS.FStr
import HandS.TupAny
import HandS.TupLen
import HandS.DictComp
import HandS.Zip
import HandS.Small
import HandS.TryMany
import HandS.EndBits
import HandS.HeadEnd
import HandS.HeadHook3
import HandS.Head2
import HandS.Head0
import HandS.Head1
import HandS.HeadHook4
import KE.KStateDown
import HandS.Words
import HandS.Text
import PySem.Challenge.RW_pastless_k17_rows_weavings_states_as_tex
set_option Elab.async false
set_option linter.all false
set_option maxRecDepth 100000
set_option maxHeartbeats 4000000
namespace Y
open PySem
inductive D where
  | non | bl (b : Bool) | int (i : Int) | str (x : List Nat) | tup (ds : List D) | ref (h : Nat) | kon (k : Nat)
mutual
def D.eqb : D → D → Bool
  | .non, .non => true
  | .bl a, .bl b => a == b
  | .int a, .int b => a == b
  | .str a, .str b => decide (a = b)
  | .tup a, .tup b => D.eqbs a b
  | .ref a, .ref b => a == b
  | .kon a, .kon b => a == b
  | _, _ => false
def D.eqbs : List D → List D → Bool
  | [], [] => true
  | a :: as, b :: bs => D.eqb a b && D.eqbs as bs
  | _, _ => false
end
mutual
theorem D.eqb_iff : ∀ a b : D, D.eqb a b = true ↔ a = b
  | .tup a, b => by
    cases b <;> simp only [D.eqb, Bool.false_eq_true, reduceCtorEq]
    rename_i ds
    rw [D.eqbs_iff a ds]
    exact ⟨fun h => by rw [h], fun h => by injection h⟩
  | .non, b => by cases b <;> simp [D.eqb]
  | .bl x, b => by cases b <;> simp [D.eqb]
  | .int x, b => by cases b <;> simp [D.eqb]
  | .str x, b => by cases b <;> simp [D.eqb]
  | .ref x, b => by cases b <;> simp [D.eqb]
  | .kon x, b => by cases b <;> simp [D.eqb]
theorem D.eqbs_iff : ∀ a b : List D, D.eqbs a b = true ↔ a = b
  | [], [] => by simp [D.eqbs]
  | [], _ :: _ => by simp [D.eqbs]
  | _ :: _, [] => by simp [D.eqbs]
  | a :: as, b :: bs => by
    simp only [D.eqbs, Bool.and_eq_true, List.cons.injEq]
    rw [D.eqb_iff a b, D.eqbs_iff as bs]
end
instance : DecidableEq D := fun a b => if h : D.eqb a b = true then isTrue ((D.eqb_iff a b).mp h) else isFalse fun e => h ((D.eqb_iff a b).mpr e)
instance : Inhabited D := ⟨.non⟩
inductive O where
  | lst (ds : List D)
  | fro (ds : List D)
  | dic (kvs : List (D × D))
  | ins (c : Nat) (fs : List (Nat × D))
abbrev Store := List O
abbrev Env := List (Option D)
structure Exc where
  cls : Nat
  fs : List (Nat × D)
inductive Op where
  | add | sub | mul | fdiv | mod | pow
inductive Cm where
  | eq | ne | lt | le | gt | ge | inn | nin
  deriving DecidableEq
inductive Ty where
  | int | str | bool | tuple | list | dict | own (c : Nat)
  deriving DecidableEq
inductive Pr where
  | len | int | str | abs | max2 | min2 | tuple | list | any | all | sum | max | min | bool
  deriving DecidableEq
inductive Me where
  | append | pop | popAt | insert | extend | reverse | clear | index | get1 | get2 | setdefault | split | join
  deriving DecidableEq
inductive Tg where
  | nm (i : Nat) | tp (is : List Nat)
mutual
inductive E where
  | var (i : Nat) | con (d : D) | glo (g : Nat)
  | bin (o : Op) (a b : E) | neg (a : E)
  | cmp (o : Cm) (a b : E) | chain (o o' : Cm) (a b c : E)
  | isN (a : E) | notN (a : E)
  | and (a b : E) | or (a b : E) | not (a : E)
  | ife (c a b : E)
  | call (f : Nat) (as : A) (df : List D)
  | make (c f : Nat) (as : A)
  | meth (alts : List (Nat × Nat)) (o : E) (as : A)
  | fld (f : Nat) (o : E)
  | pr (p : Pr) (as : A)
  | me (m : Me) (o : E) (as : A)
  | isi (a : E) (ts : List Ty)
  | idx (a b : E) | sli (a lo hi : E) | abs0
  | tup (as : A) | lst (as : A) | dic (as : A)
  | comp (elt : E) (tg : Tg) (it : E) (cs : A) (own : List Nat)
  | dcomp (k v : E) (tg : Tg) (it : E) (cs : A) (own : List Nat)
  | rng1 (a : E) | rng2 (a b : E) | enm (a : E) | zip (a b : E)
  | fstr (as : A)
  | tv (a : E) | sq (a : E)
  | efld (f : Nat) | eisi (cs : List Nat)
  | bad
inductive A where
  | nil | cons (e : E) (as : A)
end
mutual
inductive S where
  | asg (tg : Tg) (e : E) | asg2 (i j : Nat) (a b : E)
  | setf (o : E) (f : Nat) (e : E) | seti (o i e : E)
  | augn (i : Nat) (op : Op) (e : E) | augf (o : E) (f : Nat) (op : Op) (e : E)
  | exp (e : E) | ret (e : E) | retN
  | ifS (c : E) (a b : B) | forS (tg : Tg) (it : E) (b : B) | whl (c : E) (b : B)
  | brk | cnt | pas
  | rais (c : Nat) (as : A) | tryS (b : B) (hs : Hs) | del (o i : E) | bad
inductive B where
  | nil | cons (s : S) (b : B)
inductive Hs where
  | nil | cons (c : Nat) (nm : Option Nat) (b : B) (hs : Hs)
end
structure Fn where
  np : Nat
  ns : Nat
  body : B
structure Tab where
  fn : Nat → Option Fn
  glo : Nat → Option D
  kon : Nat → List (List Nat × D)
  exf : Nat → Option (Option Nat)
  sub : Nat → Nat → Bool
abbrev QE := D → Store → Prop
abbrev QX := Exc → Store → Prop
abbrev Calls := Nat → List D → Store → QE → QX → Prop
structure K where
  nx : Env → Store → Prop
  rt : D → Store → Prop
  bk : Env → Store → Prop
  ct : Env → Store → Prop
  xc : Exc → Env → Store → Prop
abbrev line : Nat := sizeLine
def decI (i : Int) : List Nat := (Str.ofString (toString i)).cps.toList
def getV (env : Env) (i : Nat) (Q : D → Prop) : Prop := match env[i]? with
  | some (some d) => Q d
  | _ => False
def seqOf (st : Store) : D → Option (List D)
  | .tup ds => some ds
  | .ref h => match st[h]? with
    | some (.lst ds) => some ds
    | some (.fro ds) => some ds
    | _ => none
  | _ => none
def ixOf (n : Nat) (i : Int) : Option Nat := if 0 ≤ i then (if i < n then some i.toNat else none) else if -(n : Int) ≤ i then some (i + n).toNat else none
abbrev cutIx : Nat → Nat → Option Int → Nat := HT.sIx
def cutL {α : Type} (xs : List α) (lo hi : Option Int) : List α := (xs.drop (cutIx xs.length 0 lo)).take (cutIx xs.length xs.length hi - cutIx xs.length 0 lo)
def toP : Nat → Store → D → Option PyData
  | _, _, .non => some .none
  | _, _, .bl b => some (.bool b)
  | _, _, .int i => some (.int i)
  | _, _, .str x => if (x.all fun c => decide (c < 1114112)) = true then some (.str ⟨x.toArray⟩) else none
  | 0, _, _ => none
  | n + 1, st, .tup ds => (ds.mapM (toP n st)).map .tuple
  | n + 1, st, .ref h => match st[h]? with
    | some (.lst ds) => (ds.mapM (toP n st)).map .list
    | some (.fro ds) => (ds.mapM (toP n st)).map .list
    | _ => none
  | _, _, .kon _ => none
def eqQ (st : Store) : D → D → (Bool → Prop) → Prop
  | .int a, .int b, Q => Q (decide (a = b))
  | .str a, .str b, Q => Q (decide (a = b))
  | .bl a, .bl b, Q => Q (decide (a = b))
  | .non, .non, Q => Q true
  | .non, .int _, Q => Q false
  | .int _, .non, Q => Q false
  | .non, .str _, Q => Q false
  | .str _, .non, Q => Q false
  | .int _, .str _, Q => Q false
  | .str _, .int _, Q => Q false
  | x, y, Q => ∃ d e, toP 60 st x = some d ∧ toP 60 st y = some e ∧ Q (PyData.eqv d e)
def flatD : D → Bool
  | .non => true | .bl _ => true | .int _ => true | .str _ => true
  | _ => false
def eqD : D → D → Bool
  | .int a, .int b => decide (a = b)
  | .str a, .str b => decide (a = b)
  | .non, .non => true
  | .bl a, .bl b => a == b
  | .bl a, .int b => (if a then 1 else 0) == b
  | .int a, .bl b => a == (if b then 1 else 0)
  | _, _ => false
def inD (x : D) (xs : List D) : Bool := xs.any fun y => eqD y x
def keyD : D → Bool
  | .int _ => true | .str _ => true
  | .tup ds => ds.all fun d => match d with
    | .int _ => true | .str _ => true
    | _ => false
  | _ => false
def getK (kvs : List (D × D)) (k : D) : Option D := (kvs.find? fun p => decide (p.1 = k)).map (·.2)
def putK (kvs : List (D × D)) (k v : D) : List (D × D) := if (getK kvs k).isSome then kvs.map fun p => if p.1 = k then (p.1, v) else p else kvs ++ [(k, v)]
def dropK (kvs : List (D × D)) (k : D) : List (D × D) := kvs.filter fun p => decide (p.1 ≠ k)
def getC (kvs : List (List Nat × D)) (k : D) : Option D := match k with
  | .str x => (kvs.find? fun p => decide (p.1 = x)).map (·.2)
  | _ => none
def inQ (T : Tab) (st : Store) : D → D → (Bool → Prop) → Prop
  | .str a, .str b, Q => Q (!(Builtin.Str.occurrences ⟨b.toArray⟩ ⟨a.toArray⟩ 0 b.length 1).isEmpty)
  | x, .kon k, Q => T.kon k ≠ [] ∧ ∃ a, x = .str a ∧ Q (getC (T.kon k) x).isSome
  | x, .tup ds, Q => flatD x = true ∧ ds.all flatD = true ∧ Q (inD x ds)
  | x, .ref h, Q => match st[h]? with
    | some (.lst ds) => flatD x = true ∧ ds.all flatD = true ∧ Q (inD x ds)
    | _ => False
  | _, _, _ => False
def cmpQ (T : Tab) (st : Store) (o : Cm) (x y : D) (Q : Bool → Prop) : Prop :=
  match o with
  | .eq => eqQ st x y Q
  | .ne => eqQ st x y fun b => Q (!b)
  | .inn => inQ T st x y Q
  | .nin => inQ T st x y fun b => Q (!b)
  | .lt => match x, y with
    | .int a, .int b => Q (decide (a < b))
    | _, _ => False
  | .le => match x, y with
    | .int a, .int b => Q (decide (a ≤ b))
    | _, _ => False
  | .gt => match x, y with
    | .int a, .int b => Q (decide (b < a))
    | _, _ => False
  | .ge => match x, y with
    | .int a, .int b => Q (decide (b ≤ a))
    | _, _ => False
def binQ (st : Store) (o : Op) (x y : D) (Q : QE) : Prop :=
  match o, x, y with
  | .add, .int a, .int b => Q (.int (a + b)) st
  | .add, .str a, .str b => a.length + b.length ≤ line ∧ Q (.str (a ++ b)) st
  | .add, .tup a, .tup b => a.length + b.length ≤ line ∧ Q (.tup (a ++ b)) st
  | .add, .ref h, .ref g => (match st[h]?, st[g]? with
    | some (.lst a), some (.lst b) => a.length + b.length ≤ line ∧ Q (.ref st.length) (st ++ [.lst (a ++ b)])
    | _, _ => False)
  | .sub, .int a, .int b => Q (.int (a - b)) st
  | .mul, .int a, .int b => ((-(2 ^ 64) < a ∧ a < 2 ^ 64) ∨ (-(2 ^ 64) < b ∧ b < 2 ^ 64)) ∧ Q (.int (a * b)) st
  | .mul, .ref h, .int k => (match st[h]? with
    | some (.lst a) => -(2 ^ 63) ≤ k ∧ k < 2 ^ 63 ∧ a.length * k.toNat ≤ line ∧ Q (.ref st.length) (st ++ [.lst (List.replicate k.toNat a).flatten])
    | _ => False)
  | .fdiv, .int a, .int b => 0 < b ∧ b < 1073741824 ∧ Q (.int (a / b)) st
  | .mod, .int a, .int b => 0 < b ∧ Q (.int (a % b)) st
  | .pow, .int a, .int b => 0 ≤ b ∧ b ≤ 1000000 ∧ a.natAbs < 2 ^ 64 ∧ Q (.int (a ^ b.toNat)) st
  | _, _, _ => False
def truQ (st : Store) (x : D) (Q : Bool → Prop) : Prop :=
  match x with
  | .non => Q false
  | .bl b => Q b
  | .int i => Q (i != 0)
  | .str x => x.length ≤ line ∧ Q (!x.isEmpty)
  | .tup ds => Q (!ds.isEmpty)
  | .ref h => (match st[h]? with
    | some (.lst ds) => Q (!ds.isEmpty)
    | _ => False)
  | .kon _ => False
def tyOf (st : Store) : D → Option Ty
  | .bl _ => some .bool
  | .int _ => some .int
  | .str _ => some .str
  | .tup _ => some .tuple
  | .non => none
  | .kon _ => some .dict
  | .ref h => match st[h]? with
    | some (.lst _) => some .list
    | some (.fro _) => some .list
    | some (.dic _) => some .dict
    | some (.ins c _) => some (.own c)
    | none => none
def isTy (T : Tab) : Option Ty → Ty → Bool
  | none, _ => false
  | some .bool, t => decide (t = .bool) || decide (t = .int)
  | some (.own c), .own d => T.sub c d
  | some a, t => decide (a = t)
def hasTy (st : Store) : D → Bool
  | .ref h => (st[h]?).isSome
  | .kon _ => false
  | _ => true
def meT : Me → Ty
  | .split => .str | .join => .str
  | .get1 => .dict | .get2 => .dict | .setdefault => .dict
  | _ => .list
def meOk (m : Me) (st : Store) : D → Prop
  | .str _ => meT m = .str
  | .ref h => (match st[h]? with
    | some (.lst _) => meT m = .list
    | some (.dic _) => meT m = .dict
    | _ => False)
  | _ => False
def prQ (p : Pr) (ds : List D) (st : Store) (Q : QE) : Prop :=
  match p, ds with
  | .len, [.str x] => x.length ≤ line ∧ Q (.int x.length) st
  | .len, [.tup xs] => Q (.int xs.length) st
  | .len, [.ref h] => (match st[h]? with
    | some (.lst xs) => Q (.int xs.length) st
    | some (.fro xs) => Q (.int xs.length) st
    | _ => False)
  | .int, [.int i] => Q (.int i) st
  | .int, [.bl b] => Q (.int (if b then 1 else 0)) st
  | .int, [.str x] => ∃ n, PySem.intText? ⟨x.toArray⟩ = some n ∧ x.length ≤ 640 ∧ Q (.int n) st
  | .str, [.int i] => i.natAbs.log2 < 1920 ∧ Q (.str (decI i)) st
  | .abs, [.int i] => Q (.int (if i < 0 then -i else i)) st
  | .max2, [.int i, .int j] => Q (.int (if j > i then j else i)) st
  | .min2, [.int i, .int j] => Q (.int (if j < i then j else i)) st
  | .tuple, [.tup xs] => Q (.tup xs) st
  | .tuple, [.ref h] => (match st[h]? with
    | some (.lst xs) => Q (.tup xs) st
    | some (.fro xs) => Q (.tup xs) st
    | _ => False)
  | .list, [.tup xs] => Q (.ref st.length) (st ++ [.lst xs])
  | .list, [.ref h] => (match st[h]? with
    | some (.lst xs) => Q (.ref st.length) (st ++ [.lst xs])
    | some (.fro xs) => Q (.ref st.length) (st ++ [.lst xs])
    | _ => False)
  | .any, [.ref h] => (match st[h]? with
    | some (.lst xs) => ∃ bs : List Bool, xs = bs.map D.bl ∧ Q (.bl (bs.any id)) st
    | _ => False)
  | .all, [.ref h] => (match st[h]? with
    | some (.lst xs) => ∃ bs : List Bool, xs = bs.map D.bl ∧ Q (.bl (bs.all id)) st
    | _ => False)
  | .bool, [.int i] => Q (.bl (i != 0)) st
  | .bool, [.bl b] => Q (.bl b) st
  | _, _ => False
def meQ (m : Me) (x : D) (ds : List D) (st : Store) (Q : QE) : Prop :=
  match m, x, ds with
  | .append, .ref h, [d] => (match st[h]? with
    | some (.lst xs) => xs.length < line ∧ Q .non (st.set h (.lst (xs ++ [d])))
    | _ => False)
  | .pop, .ref h, [] => (match st[h]? with
    | some (.lst xs) => ∃ d, xs[xs.length - 1]? = some d ∧ Q d (st.set h (.lst xs.dropLast))
    | _ => False)
  | .reverse, .ref h, [] => (match st[h]? with
    | some (.lst xs) => Q .non (st.set h (.lst xs.reverse))
    | _ => False)
  | .clear, .ref h, [] => (match st[h]? with
    | some (.lst _) => Q .non (st.set h (.lst []))
    | _ => False)
  | .split, .str a, [.str b] => b.length ≠ 0 ∧ a.length + 2 ≤ line ∧ Q (.ref st.length) (st ++ [.lst ((Txt.split ⟨a.toArray⟩ ⟨b.toArray⟩).map fun z => .str z.cps.toList)])
  | .join, .str a, [d] => ∃ ys : List (List Nat), seqOf st d = some (ys.map D.str) ∧ (ys.map List.length).sum + ys.length * a.length ≤ 16777216 ∧
      Q (.str (Txt.join ⟨a.toArray⟩ (ys.map fun y => ⟨y.toArray⟩)).cps.toList) st
  | _, _, _ => False
def fmtQ (x : D) (Q : List Nat → Prop) : Prop :=
  match x with
  | .str y => y.length ≤ line ∧ Q y
  | .int i => i.natAbs.log2 < 1920 ∧ Q (decI i)
  | _ => False
def idxQ (T : Tab) (st : Store) (x i : D) (Q : QE) : Prop :=
  match x, i with
  | .str z, .int i => z.length ≤ line ∧ (match ixOf z.length i with
    | some j => ∃ c, z[j]? = some c ∧ Q (.str [c]) st
    | none => False)
  | .tup xs, .int i => (match ixOf xs.length i with
    | some j => ∃ c, xs[j]? = some c ∧ Q c st
    | none => False)
  | .kon k, y => ∃ v, getC (T.kon k) y = some v ∧ Q v st
  | .ref h, y => (match st[h]? with
    | some (.lst xs) => ∃ i, y = .int i ∧ (match ixOf xs.length i with
      | some j => ∃ c, xs[j]? = some c ∧ Q c st
      | none => False)
    | some (.fro xs) => ∃ i, y = .int i ∧ (match ixOf xs.length i with
      | some j => ∃ c, xs[j]? = some c ∧ Q c st
      | none => False)
    | _ => False)
  | _, _ => False
def partQ (d : D) (Q : Option Int → Prop) : Prop :=
  match d with
  | .int i => Q (some i)
  | .non => Q none
  | _ => False
def sliQ (st : Store) (x : D) (lo hi : Option Int) (Q : QE) : Prop :=
  match x with
  | .str z => z.length ≤ line ∧ Q (.str (cutL z lo hi)) st
  | .tup xs => Q (.tup (cutL xs lo hi)) st
  | .ref h => (match st[h]? with
    | some (.lst xs) => Q (.ref st.length) (st ++ [.lst (cutL xs lo hi)])
    | some (.fro xs) => Q (.ref st.length) (st ++ [.lst (cutL xs lo hi)])
    | _ => False)
  | _ => False
def setQ (st : Store) (x i v : D) (Q : Store → Prop) : Prop :=
  match x with
  | .ref h => (match st[h]? with
    | some (.lst xs) => ∃ k j, i = .int k ∧ ixOf xs.length k = some j ∧ Q (st.set h (.lst (xs.set j v)))
    | _ => False)
  | _ => False
def pairsOf : List D → Option (List (D × D))
  | [] => some []
  | k :: v :: r => (pairsOf r).map fun ps => (k, v) :: ps
  | [_] => none
inductive J where
  | lst (h : Nat)
  | seq (ds : List D)
  | enm (h : Nat)
  | zip (h g : Nat)
def J.at (j : J) (i : Nat) (st : Store) : Option (Option D) :=
  match j with
  | .lst h => match st[h]? with
    | some (.lst ds) => some ds[i]?
    | some (.fro ds) => some ds[i]?
    | _ => none
  | .seq ds => some ds[i]?
  | .enm h => match st[h]? with
    | some (.lst ds) => some (ds[i]?.map fun d => .tup [.int i, d])
    | some (.fro ds) => some (ds[i]?.map fun d => .tup [.int i, d])
    | _ => none
  | .zip h g => match st[h]?, st[g]? with
    | some (.lst xs), some (.lst ys) => match xs[i]?, ys[i]? with
      | some x, some y => some (some (.tup [x, y]))
      | _, _ => some none
    | _, _ => none
def bindT (tg : Tg) (d : D) (env : Env) : Option Env :=
  match tg, d with
  | .nm i, d => some (env.set i (some d))
  | .tp is, .tup ds => if ds.length = is.length then some ((is.zip ds).foldl (fun e p => e.set p.1 (some p.2)) env) else none
  | _, _ => none
def forN (j : J) (tg : Tg) (body : Env → Store → K → Prop) (k : K) : Nat → Nat → Env → Store → Prop
  | 0, _, _, _ => False
  | n + 1, i, env, st => match j.at i st with
    | none => False
    | some none => k.nx env st
    | some (some d) => match bindT tg d env with
      | none => False
      | some env' => body env' st { k with nx := forN j tg body k n (i + 1), ct := forN j tg body k n (i + 1), bk := k.nx }
def whlN (c : Env → Store → (Bool → Store → Prop) → Prop) (body : Env → Store → K → Prop) (k : K) : Nat → Env → Store → Prop
  | 0, _, _ => False
  | n + 1, env, st => c env st fun b st1 => if b = true then body env st1 { k with nx := whlN c body k n, ct := whlN c body k n, bk := k.nx } else k.nx env st1
def wipeE (env : Env) : List Nat → Env
  | [] => env
  | v :: vs => (wipeE env vs).set v none
def cmpN (j : J) (tg : Tg) (tests : Env → Store → (Bool → Store → Prop) → Prop) (elt : Env → Store → QE → Prop) (h : Nat) (Q : QE) : Nat → Nat → Env → Store → Prop
  | 0, _, _, _ => False
  | n + 1, i, env, st => match j.at i st with
    | none => False
    | some none => Q (.ref h) st
    | some (some d) => match bindT tg d env with
      | none => False
      | some env' => tests env' st fun b st1 => if b = true then elt env' st1 fun y st2 => (match st2[h]? with
          | some (.lst acc) => acc.length < line ∧ cmpN j tg tests elt h Q n (i + 1) env (st2.set h (.lst (acc ++ [y])))
          | _ => False) else cmpN j tg tests elt h Q n (i + 1) env st1
def dcmN (j : J) (tg : Tg) (tests : Env → Store → (Bool → Store → Prop) → Prop) (kx vx : Env → Store → QE → Prop) (h : Nat) (Q : QE) : Nat → Nat → Env → Store → Prop
  | 0, _, _, _ => False
  | n + 1, i, env, st => match j.at i st with
    | none => False
    | some none => Q (.ref h) st
    | some (some d) => match bindT tg d env with
      | none => False
      | some env' => tests env' st fun b st1 => if b = true then kx env' st1 fun x st2 => vx env' st2 fun y st3 => (match st3[h]? with
          | some (.dic kvs) => keyD x = true ∧ kvs.length < line ∧ dcmN j tg tests kx vx h Q n (i + 1) env (st3.set h (.dic (putK kvs x y)))
          | _ => False) else dcmN j tg tests kx vx h Q n (i + 1) env st1
def fldQ (st : Store) (x : D) (f : Nat) (Q : QE) : Prop :=
  match x with
  | .ref h => (match st[h]? with
    | some (.ins _ fs) => (match fs.lookup f with
      | some d => Q d st
      | none => False)
    | _ => False)
  | _ => False
def putF (f : Nat) (d : D) : List (Nat × D) → List (Nat × D)
  | [] => [(f, d)]
  | p :: r => if p.1 = f then (f, d) :: r else p :: putF f d r
def setfQ (st : Store) (x : D) (f : Nat) (v : D) (Q : Store → Prop) : Prop :=
  match x with
  | .ref h => (match st[h]? with
    | some (.ins c fs) => fs.length < 1000 ∧ Q (st.set h (.ins c (putF f v fs)))
    | _ => False)
  | _ => False
def clsOf (st : Store) : D → Option Nat
  | .ref h => (match st[h]? with
    | some (.ins c _) => some c
    | _ => none)
  | _ => none
def walkQ (st : Store) (x : D) (R : J → Prop) : Prop :=
  match x with
  | .tup ds => R (.seq ds)
  | .str z => R (.seq (z.map fun c => .str [c]))
  | .ref h => (match st[h]? with
    | some (.lst _) => R (.lst h)
    | some (.fro _) => R (.lst h)
    | _ => False)
  | _ => False
def enmQ (st : Store) (x : D) (R : J → Prop) : Prop :=
  match x with
  | .ref h => (match st[h]? with
    | some (.lst _) => R (.enm h)
    | some (.fro _) => R (.enm h)
    | _ => False)
  | _ => False
def zipQ (st : Store) (x y : D) (R : J → Prop) : Prop :=
  match x, y with
  | .tup a, .tup b => R (.seq (List.zipWith (fun u v => .tup [u, v]) a b))
  | .ref h, .ref g => (match st[h]?, st[g]? with
    | some (.lst _), some (.lst _) => R (.zip h g)
    | _, _ => False)
  | _, _ => False
def rngD (lo : Int) (n : Nat) : List D := (List.range n).map fun (i : Nat) => D.int (lo + i)
def unset (nm : Option Nat) (env : Env) : Env :=
  match nm with
  | some i => env.set i none
  | none => env
section
variable (T : Tab) (C : Calls) (hx : Option Exc)
mutual
def wpE : E → Env → Store → QE → QX → Prop
  | .var i, env, st, Q, _ => getV env i fun d => Q d st
  | .con d, _, st, Q, _ => Q d st
  | .glo g, _, st, Q, _ => (match T.glo g with
    | some d => Q d st
    | none => False)
  | .bin o a b, env, st, Q, X => wpE a env st (fun x s1 => wpE b env s1 (fun y s2 => binQ s2 o x y Q) X) X
  | .neg a, env, st, Q, X => wpE a env st (fun x s1 => (match x with
    | .int i => Q (.int (-i)) s1
    | _ => False)) X
  | .cmp o a b, env, st, Q, X => wpE a env st (fun x s1 => wpE b env s1 (fun y s2 => cmpQ T s2 o x y fun b => Q (.bl b) s2) X) X
  | .chain o o' a b c, env, st, Q, X => wpE a env st (fun x s1 => wpE b env s1 (fun y s2 => cmpQ T s2 o x y fun k => if k = true then wpE c env s2 (fun z s3 => cmpQ T s3 o' y z fun b => Q (.bl b) s3) X else Q (.bl false) s2) X) X
  | .isN a, env, st, Q, X => wpE a env st (fun x s1 => Q (.bl (decide (x = .non))) s1) X
  | .notN a, env, st, Q, X => wpE a env st (fun x s1 => Q (.bl (!decide (x = .non))) s1) X
  | .and a b, env, st, Q, X => wpE a env st (fun x s1 => (match x with
    | .bl c => if c = true then wpE b env s1 Q X else Q (.bl false) s1
    | _ => False)) X
  | .or a b, env, st, Q, X => wpE a env st (fun x s1 => (match x with
    | .bl c => if c = true then Q (.bl true) s1 else wpE b env s1 Q X
    | _ => False)) X
  | .not a, env, st, Q, X => wpE a env st (fun x s1 => (match x with
    | .bl c => Q (.bl (!c)) s1
    | _ => False)) X
  | .ife c a b, env, st, Q, X => wpT c env st (fun k s1 => if k = true then wpE a env s1 Q X else wpE b env s1 Q X) X
  | .call f as df, env, st, Q, X => hx = none ∧ wpA as env st (fun ds s1 => C f (ds ++ df) s1 Q X) X
  | .make c f as, env, st, Q, X => hx = none ∧ wpA as env st (fun ds s1 => C f (.ref s1.length :: ds) (s1 ++ [.ins c []]) (fun d s2 => d = .non ∧ Q (.ref s1.length) s2) X) X
  | .meth alts o as, env, st, Q, X => hx = none ∧ wpE o env st (fun x s1 => (match x with
    | .ref h => (match s1[h]? with
      | some (.ins c fs) => (match alts.lookup c with
        | some f => wpA as env s1 (fun ds s2 => C f (x :: ds) s2 Q X) X
        | none => False)
      | _ => False)
    | _ => False)) X
  | .fld f o, env, st, Q, X => wpE o env st (fun x s1 => fldQ s1 x f Q) X
  | .pr p as, env, st, Q, X => hx = none ∧ wpA as env st (fun ds s1 => prQ p ds s1 Q) X
  | .me m o as, env, st, Q, X => wpE o env st (fun x s1 => meOk m s1 x ∧ wpA as env s1 (fun ds s2 => meQ m x ds s2 Q) X) X
  | .isi a ts, env, st, Q, X => wpE a env st (fun x s1 => hasTy s1 x = true ∧ Q (.bl (ts.any fun t => isTy T (tyOf s1 x) t)) s1) X
  | .idx a b, env, st, Q, X => wpE a env st (fun x s1 => wpE b env s1 (fun y s2 => idxQ T s2 x y Q) X) X
  | .sli a lo hi, env, st, Q, X => wpE a env st (fun x s1 => wpE lo env s1 (fun l s2 => partQ l fun l' => wpE hi env s2 (fun u s3 => partQ u fun u' => sliQ s3 x l' u' Q) X) X) X
  | .abs0, _, st, Q, _ => Q .non st
  | .tup as, env, st, Q, X => wpA as env st (fun ds s1 => Q (.tup ds) s1) X
  | .lst as, env, st, Q, X => wpA as env st (fun ds s1 => Q (.ref s1.length) (s1 ++ [.lst ds])) X
  | .comp elt tg it cs own, env, st, Q, X => hx = none ∧ wpI it env st (fun j s1 => ∃ n, cmpN j tg (fun e s P => wpTs cs e s P) (fun e s P => wpE elt e s P (fun _ _ => False)) s1.length Q n 0 (wipeE env own) (s1 ++ [.lst []])) X
  | .fstr as, env, st, Q, X => wpF as env st [] (fun y s1 => Q (.str y) s1) X
  | .efld f, _, st, Q, _ => (match hx with
    | some e => (match e.fs.lookup f with
      | some d => Q d st
      | none => False)
    | none => False)
  | .eisi cs, _, st, Q, _ => (match hx with
    | some e => Q (.bl (cs.any fun c => T.sub e.cls c)) st
    | none => False)
  | _, _, _, _, _ => False
def wpT : E → Env → Store → (Bool → Store → Prop) → QX → Prop
  | .cmp o a b, env, st, Q, X => wpE a env st (fun x s1 => wpE b env s1 (fun y s2 => cmpQ T s2 o x y fun k => Q k s2) X) X
  | .chain o o' a b c, env, st, Q, X => wpE a env st (fun x s1 => wpE b env s1 (fun y s2 => cmpQ T s2 o x y fun k => if k = true then wpE c env s2 (fun z s3 => cmpQ T s3 o' y z fun b => Q b s3) X else Q false s2) X) X
  | .isN a, env, st, Q, X => wpE a env st (fun x s1 => Q (decide (x = .non)) s1) X
  | .notN a, env, st, Q, X => wpE a env st (fun x s1 => Q (!decide (x = .non)) s1) X
  | .and a b, env, st, Q, X => wpT a env st (fun k s1 => if k = true then wpT b env s1 Q X else Q false s1) X
  | .or a b, env, st, Q, X => wpT a env st (fun k s1 => if k = true then Q true s1 else wpT b env s1 Q X) X
  | .not a, env, st, Q, X => wpT a env st (fun k s1 => Q (!k) s1) X
  | .tv e, env, st, Q, X => wpE e env st (fun x s1 => truQ s1 x fun k => Q k s1) X
  | _, _, _, _, _ => False
def wpA : A → Env → Store → (List D → Store → Prop) → QX → Prop
  | .nil, _, st, Q, _ => Q [] st
  | .cons e as, env, st, Q, X => wpE e env st (fun d s1 => wpA as env s1 (fun ds s2 => Q (d :: ds) s2) X) X
def wpF : A → Env → Store → List Nat → (List Nat → Store → Prop) → QX → Prop
  | .nil, _, st, acc, Q, _ => Q acc st
  | .cons e as, env, st, acc, Q, X => wpE e env st (fun d s1 => fmtQ d fun y => (acc ++ y).length ≤ line ∧ wpF as env s1 (acc ++ y) Q X) X
def wpTs : A → Env → Store → (Bool → Store → Prop) → Prop
  | .nil, _, st, Q => Q true st
  | .cons e .nil, env, st, Q => wpT e env st Q (fun _ _ => False)
  | _, _, _, _ => False
def wpI : E → Env → Store → (J → Store → Prop) → QX → Prop
  | .rng1 a, env, st, R, X => wpE a env st (fun x s1 => (match x with
    | .int n => -(2 ^ 62) ≤ n ∧ n < 2 ^ 62 ∧ R (.seq (rngD 0 n.toNat)) s1
    | _ => False)) X
  | .rng2 a b, env, st, R, X => wpE a env st (fun x s1 => wpE b env s1 (fun y s2 => (match x, y with
    | .int m, .int n => (-(2 ^ 62) ≤ m ∧ m < 2 ^ 62 ∧ -(2 ^ 62) ≤ n ∧ n < 2 ^ 62) ∧ R (.seq (rngD m (n - m).toNat)) s2
    | _, _ => False)) X) X
  | .enm a, env, st, R, X => wpE a env st (fun x s1 => enmQ s1 x fun j => R j s1) X
  | .zip a b, env, st, R, X => wpE a env st (fun x s1 => wpE b env s1 (fun y s2 => zipQ s2 x y fun j => R j s2) X) X
  | .sq e, env, st, R, X => wpE e env st (fun x s1 => walkQ s1 x fun j => R j s1) X
  | _, _, _, _, _ => False
end
mutual
def wpS : Option Exc → S → Env → Store → K → Prop
  | hx, .asg tg e, env, st, k => (match tg with
    | .tp _ => hx = none
    | _ => True) ∧ wpE T C hx e env st (fun d s1 => (match bindT tg d env with
    | some env' => k.nx env' s1
    | none => False)) fun x s1 => k.xc x env s1
  | hx, .asg2 i j a b, env, st, k => hx = none ∧ wpE T C hx a env st (fun x s1 => wpE T C hx b env s1 (fun y s2 => k.nx ((env.set i (some x)).set j (some y)) s2) fun x s1 => k.xc x env s1) fun x s1 => k.xc x env s1
  | hx, .setf o f e, env, st, k => wpE T C hx e env st (fun v s1 => wpE T C hx o env s1 (fun x s2 => setfQ s2 x f v fun s3 => k.nx env s3) fun x s1 => k.xc x env s1) fun x s1 => k.xc x env s1
  | hx, .seti o i e, env, st, k => wpE T C hx e env st (fun v s1 => wpE T C hx o env s1 (fun x s2 => wpE T C hx i env s2 (fun y s3 => setQ s3 x y v fun s4 => k.nx env s4) fun x s1 => k.xc x env s1) fun x s1 => k.xc x env s1) fun x s1 => k.xc x env s1
  | hx, .augn i op e, env, st, k => getV env i fun x => wpE T C hx e env st (fun y s1 => (match op, x, y with
    | .add, .int a, .int b => k.nx (env.set i (some (.int (a + b)))) s1
    | .sub, .int a, .int b => k.nx (env.set i (some (.int (a - b)))) s1
    | _, _, _ => False)) fun x s1 => k.xc x env s1
  | hx, .augf o f op e, env, st, k => wpE T C hx o env st (fun x s1 => fldQ s1 x f fun v s1 => wpE T C hx e env s1 (fun y s2 => (match op, v, y with
    | .add, .int a, .int b => clsOf s2 x = clsOf s1 x ∧ setfQ s2 x f (.int (a + b)) fun s3 => k.nx env s3
    | .sub, .int a, .int b => clsOf s2 x = clsOf s1 x ∧ setfQ s2 x f (.int (a - b)) fun s3 => k.nx env s3
    | _, _, _ => False)) fun x s1 => k.xc x env s1) fun x s1 => k.xc x env s1
  | hx, .exp e, env, st, k => wpE T C hx e env st (fun _ s1 => k.nx env s1) fun x s1 => k.xc x env s1
  | hx, .ret e, env, st, k => wpE T C hx e env st (fun d s1 => k.rt d s1) fun x s1 => k.xc x env s1
  | _, .retN, _, st, k => k.rt .non st
  | hx, .ifS c a b, env, st, k => wpT T C hx c env st (fun t s1 => if t = true then wpB hx a env s1 k else wpB hx b env s1 k) fun x s1 => k.xc x env s1
  | hx, .forS tg it b, env, st, k => hx = none ∧ wpI T C hx it env st (fun j s1 => ∃ n, forN j tg (fun e s k' => wpB hx b e s k') k n 0 env s1) fun x s1 => k.xc x env s1
  | hx, .whl c b, env, st, k => hx = none ∧ ∃ n, whlN (fun e s P => wpT T C hx c e s P fun x s1 => k.xc x e s1) (fun e s k' => wpB hx b e s k') k n env st
  | _, .brk, env, st, k => k.bk env st
  | _, .cnt, env, st, k => k.ct env st
  | _, .pas, env, st, k => k.nx env st
  | hx, .rais c as, env, st, k => hx = none ∧ (match T.exf c, as with
    | some none, .nil => k.xc ⟨c, []⟩ env st
    | some (some f), .cons e .nil => wpE T C hx e env st (fun d s1 => k.xc ⟨c, [(f, d)]⟩ env s1) fun x s1 => k.xc x env s1
    | _, _ => False)
  | hx, .tryS b hs, env, st, k => hx = none ∧ wpB hx b env st { k with xc := fun e env' s' => wpH hs e env' s' k }
  | _, _, _, _, _ => False
def wpB : Option Exc → B → Env → Store → K → Prop
  | _, .nil, env, st, k => k.nx env st
  | hx, .cons s b, env, st, k => wpS hx s env st { k with nx := fun e s' => wpB hx b e s' k }
def wpH : Hs → Exc → Env → Store → K → Prop
  | .nil, e, env, st, k => k.xc e env st
  | .cons c nm b hs, e, env, st, k => if T.sub e.cls c = true then wpB (some e) b (unset nm env) st ⟨fun e' s' => k.nx (unset nm e') s', k.rt, fun _ _ => False, fun _ _ => False, fun _ _ _ => False⟩ else wpH hs e env st k
end
end
def Call (T : Tab) : Nat → Calls
  | 0, _, _, _, _, _ => False
  | n + 1, f, ds, st, Q, X => match T.fn f with
    | none => False
    | some fn => ds.length = fn.np ∧ wpB T (Call T n) none fn.body (ds.map some ++ List.replicate (fn.ns - fn.np) none) st ⟨fun _ s => Q .non s, Q, fun _ _ => False, fun _ _ => False, fun e _ s => X e s⟩
end Y
set_option linter.all false
set_option maxHeartbeats 4000000
namespace Y
open PySem
theorem getV_mono {env : Env} {i : Nat} {Q Q' : D → Prop} (h : ∀ d, Q d → Q' d) (q : getV env i Q) : getV env i Q' := by
  unfold getV at q ⊢
  split at q
  · exact h _ q
  · exact q.elim
theorem eqQ_mono {st : Store} {x y : D} {Q Q' : Bool → Prop} (h : ∀ b, Q b → Q' b) (q : eqQ st x y Q) : eqQ st x y Q' := by
  unfold eqQ at q ⊢
  split at q <;> first
    | exact h _ q
    | (obtain ⟨d, e, h1, h2, h3⟩ := q; exact ⟨d, e, h1, h2, h _ h3⟩)
theorem inQ_mono {T : Tab} {st : Store} {x y : D} {Q Q' : Bool → Prop} (h : ∀ b, Q b → Q' b) (q : inQ T st x y Q) : inQ T st x y Q' := by
  unfold inQ at q ⊢
  split at q
  · exact h _ q
  · obtain ⟨h0, a, e, q⟩ := q
    exact ⟨h0, a, e, h _ q⟩
  · exact ⟨q.1, q.2.1, h _ q.2.2⟩
  · split at q
    · exact ⟨q.1, q.2.1, h _ q.2.2⟩
    · exact q.elim
  · exact q.elim
theorem cmpQ_mono {T : Tab} {st : Store} {o : Cm} {x y : D} {Q Q' : Bool → Prop} (h : ∀ b, Q b → Q' b) (q : cmpQ T st o x y Q) : cmpQ T st o x y Q' := by
  cases o
  · exact eqQ_mono (x := x) (y := y) h q
  · exact eqQ_mono (x := x) (y := y) (fun b => h _) q
  all_goals first
    | exact inQ_mono (x := x) (y := y) h q
    | exact inQ_mono (x := x) (y := y) (fun b => h _) q
    | (unfold cmpQ at q ⊢
       dsimp only at q ⊢
       split at q
       · exact h _ q
       · exact q.elim)
theorem binQ_mono {st : Store} {o : Op} {x y : D} {Q Q' : QE} (h : ∀ d s, Q d s → Q' d s) (q : binQ st o x y Q) : binQ st o x y Q' := by
  unfold binQ at q ⊢
  split at q
  all_goals first
    | exact h _ _ q
    | exact ⟨q.1, h _ _ q.2⟩
    | exact ⟨q.1, q.2.1, h _ _ q.2.2⟩
    | exact ⟨q.1, q.2.1, q.2.2.1, h _ _ q.2.2.2⟩
    | (split at q
       · exact ⟨q.1, h _ _ q.2⟩
       · exact q.elim)
    | (split at q
       · exact ⟨q.1, q.2.1, q.2.2.1, h _ _ q.2.2.2⟩
       · exact q.elim)
    | exact q.elim
theorem truQ_mono {st : Store} {x : D} {Q Q' : Bool → Prop} (h : ∀ b, Q b → Q' b) (q : truQ st x Q) : truQ st x Q' := by
  unfold truQ at q ⊢
  split at q
  all_goals first
    | exact h _ q
    | exact ⟨q.1, h _ q.2⟩
    | (split at q
       · exact h _ q
       · exact q.elim)
    | exact q.elim
theorem prQ_mono {p : Pr} {ds : List D} {st : Store} {Q Q' : QE} (h : ∀ d s, Q d s → Q' d s) (q : prQ p ds st Q) : prQ p ds st Q' := by
  unfold prQ at q ⊢
  split at q
  all_goals first
    | exact h _ _ q
    | exact ⟨q.1, h _ _ q.2⟩
    | (obtain ⟨n, h1, h2, h3⟩ := q; exact ⟨n, h1, h2, h _ _ h3⟩)
    | (split at q <;> first
       | exact h _ _ q
       | (obtain ⟨n, h1, h2⟩ := q; exact ⟨n, h1, h _ _ h2⟩)
       | exact q.elim)
    | exact q.elim
theorem meQ_mono {m : Me} {x : D} {ds : List D} {st : Store} {Q Q' : QE} (h : ∀ d s, Q d s → Q' d s) (q : meQ m x ds st Q) : meQ m x ds st Q' := by
  unfold meQ at q ⊢
  split at q
  all_goals first
    | exact h _ _ q
    | exact ⟨q.1, h _ _ q.2⟩
    | exact ⟨q.1, q.2.1, h _ _ q.2.2⟩
    | (obtain ⟨n, h1, h2, h3⟩ := q; exact ⟨n, h1, h2, h _ _ h3⟩)
    | (split at q <;> first
       | exact h _ _ q
       | exact ⟨q.1, h _ _ q.2⟩
       | (obtain ⟨n, h1, h2⟩ := q; exact ⟨n, h1, h _ _ h2⟩)
       | exact q.elim)
    | exact q.elim
theorem fmtQ_mono {x : D} {Q Q' : List Nat → Prop} (h : ∀ b, Q b → Q' b) (q : fmtQ x Q) : fmtQ x Q' := by
  unfold fmtQ at q ⊢
  split at q
  · exact ⟨q.1, h _ q.2⟩
  · exact ⟨q.1, h _ q.2⟩
  · exact q.elim
theorem idxQ_mono {T : Tab} {st : Store} {x i : D} {Q Q' : QE} (h : ∀ d s, Q d s → Q' d s) (q : idxQ T st x i Q) : idxQ T st x i Q' := by
  unfold idxQ at q ⊢
  split at q
  · refine ⟨q.1, ?_⟩
    have q2 := q.2
    split at q2
    · obtain ⟨c, h1, h2⟩ := q2
      exact ⟨c, h1, h _ _ h2⟩
    · exact q2.elim
  · split at q
    · obtain ⟨c, h1, h2⟩ := q
      exact ⟨c, h1, h _ _ h2⟩
    · exact q.elim
  · obtain ⟨v, h1, h2⟩ := q
    exact ⟨v, h1, h _ _ h2⟩
  · split at q
    · obtain ⟨i, e, q⟩ := q
      refine ⟨i, e, ?_⟩
      split at q
      · obtain ⟨c, h1, h2⟩ := q
        exact ⟨c, h1, h _ _ h2⟩
      · exact q.elim
    · obtain ⟨i, e, q⟩ := q
      refine ⟨i, e, ?_⟩
      split at q
      · obtain ⟨c, h1, h2⟩ := q
        exact ⟨c, h1, h _ _ h2⟩
      · exact q.elim
    · exact q.elim
  · exact q.elim
theorem partQ_mono {d : D} {Q Q' : Option Int → Prop} (h : ∀ b, Q b → Q' b) (q : partQ d Q) : partQ d Q' := by
  unfold partQ at q ⊢
  split at q <;> first
    | exact h _ q
    | exact q.elim
theorem sliQ_mono {st : Store} {x : D} {lo hi : Option Int} {Q Q' : QE} (h : ∀ d s, Q d s → Q' d s) (q : sliQ st x lo hi Q) : sliQ st x lo hi Q' := by
  unfold sliQ at q ⊢
  split at q
  · exact ⟨q.1, h _ _ q.2⟩
  · exact h _ _ q
  · split at q <;> first
    | exact h _ _ q
    | exact q.elim
  · exact q.elim
theorem setQ_mono {st : Store} {x i v : D} {Q Q' : Store → Prop} (h : ∀ s, Q s → Q' s) (q : setQ st x i v Q) : setQ st x i v Q' := by
  unfold setQ at q ⊢
  split at q
  · split at q
    · obtain ⟨k, j, h1, h2, h3⟩ := q
      exact ⟨k, j, h1, h2, h _ h3⟩
    · exact q.elim
  · exact q.elim
theorem fldQ_mono {st : Store} {x : D} {f : Nat} {Q Q' : QE} (h : ∀ d s, Q d s → Q' d s) (q : fldQ st x f Q) : fldQ st x f Q' := by
  unfold fldQ at q ⊢
  split at q
  · split at q
    · split at q
      · exact h _ _ q
      · exact q.elim
    · exact q.elim
  · exact q.elim
theorem setfQ_mono {st : Store} {x : D} {f : Nat} {v : D} {Q Q' : Store → Prop} (h : ∀ s, Q s → Q' s) (q : setfQ st x f v Q) : setfQ st x f v Q' := by
  unfold setfQ at q ⊢
  split at q
  · split at q
    · exact ⟨q.1, h _ q.2⟩
    · exact q.elim
  · exact q.elim
theorem walkQ_mono {st : Store} {x : D} {R R' : J → Prop} (h : ∀ j, R j → R' j) (q : walkQ st x R) : walkQ st x R' := by
  unfold walkQ at q ⊢
  split at q
  · exact h _ q
  · exact h _ q
  · split at q <;> first
    | exact h _ q
    | exact q.elim
  · exact q.elim
theorem enmQ_mono {st : Store} {x : D} {R R' : J → Prop} (h : ∀ j, R j → R' j) (q : enmQ st x R) : enmQ st x R' := by
  unfold enmQ at q ⊢
  split at q
  · split at q <;> first
    | exact h _ q
    | exact q.elim
  · exact q.elim
theorem zipQ_mono {st : Store} {x y : D} {R R' : J → Prop} (h : ∀ j, R j → R' j) (q : zipQ st x y R) : zipQ st x y R' := by
  unfold zipQ at q ⊢
  split at q
  · exact h _ q
  · split at q <;> first
    | exact h _ q
    | exact q.elim
  · exact q.elim
structure K.Le (k k' : K) : Prop where
  nx : ∀ e s, k.nx e s → k'.nx e s
  rt : ∀ d s, k.rt d s → k'.rt d s
  bk : ∀ e s, k.bk e s → k'.bk e s
  ct : ∀ e s, k.ct e s → k'.ct e s
  xc : ∀ x e s, k.xc x e s → k'.xc x e s
theorem K.Le.refl (k : K) : k.Le k := ⟨fun _ _ h => h, fun _ _ h => h, fun _ _ h => h, fun _ _ h => h, fun _ _ _ h => h⟩
theorem forN_mono {j : J} {tg : Tg} {body body' : Env → Store → K → Prop} {k k' : K} (hb : ∀ e s q q', q.Le q' → body e s q → body' e s q') (hk : k.Le k') : ∀ (n i : Nat) (env : Env) (st : Store), forN j tg body k n i env st → forN j tg body' k' n i env st
  | 0, _, _, _, h => h.elim
  | n + 1, i, env, st, h => by
    unfold forN at h ⊢
    split at h
    · exact h.elim
    · exact hk.nx _ _ h
    · split at h
      · exact h.elim
      · refine hb _ _ _ _ ?_ h
        exact ⟨fun e s => forN_mono hb hk n (i + 1) e s, hk.rt, hk.nx, fun e s => forN_mono hb hk n (i + 1) e s, hk.xc⟩
theorem whlN_mono {c c' : Env → Store → (Bool → Store → Prop) → Prop} {body body' : Env → Store → K → Prop} {k k' : K} (hc : ∀ e s P P', (∀ b s, P b s → P' b s) → c e s P → c' e s P') (hb : ∀ e s q q', q.Le q' → body e s q → body' e s q') (hk : k.Le k') :
    ∀ (n : Nat) (env : Env) (st : Store), whlN c body k n env st → whlN c' body' k' n env st
  | 0, _, _, h => h.elim
  | n + 1, env, st, h => by
    unfold whlN at h ⊢
    refine hc _ _ _ _ (fun b s q => ?_) h
    split at q
    · rename_i e
      rw [if_pos e]
      refine hb _ _ _ _ ?_ q
      exact ⟨fun e s => whlN_mono hc hb hk n e s, hk.rt, hk.nx, fun e s => whlN_mono hc hb hk n e s, hk.xc⟩
    · rename_i e
      rw [if_neg e]
      exact hk.nx _ _ q
theorem cmpN_mono {j : J} {tg : Tg} {tests tests' : Env → Store → (Bool → Store → Prop) → Prop} {elt elt' : Env → Store → QE → Prop} {h : Nat} {Q Q' : QE} (ht : ∀ e s P P', (∀ b s, P b s → P' b s) → tests e s P → tests' e s P')
    (he : ∀ e s P P', (∀ b s, P b s → P' b s) → elt e s P → elt' e s P') (hQ : ∀ d s, Q d s → Q' d s) : ∀ (n i : Nat) (env : Env) (st : Store), cmpN j tg tests elt h Q n i env st → cmpN j tg tests' elt' h Q' n i env st
  | 0, _, _, _, q => q.elim
  | n + 1, i, env, st, q => by
    unfold cmpN at q ⊢
    split at q
    · exact q.elim
    · exact hQ _ _ q
    · split at q
      · exact q.elim
      · refine ht _ _ _ _ (fun b s z => ?_) q
        cases b with
        | false =>
          rw [if_neg Bool.false_ne_true] at z ⊢
          exact cmpN_mono ht he hQ n (i + 1) _ _ z
        | true =>
          rw [if_pos rfl] at z ⊢
          refine he _ _ _ _ (fun y s2 z2 => ?_) z
          split at z2
          · exact ⟨z2.1, cmpN_mono ht he hQ n (i + 1) _ _ z2.2⟩
          · exact z2.elim
theorem dcmN_mono {j : J} {tg : Tg} {tests tests' : Env → Store → (Bool → Store → Prop) → Prop} {kx kx' vx vx' : Env → Store → QE → Prop} {h : Nat} {Q Q' : QE} (ht : ∀ e s P P', (∀ b s, P b s → P' b s) → tests e s P → tests' e s P')
    (hk : ∀ e s P P', (∀ b s, P b s → P' b s) → kx e s P → kx' e s P') (hv : ∀ e s P P', (∀ b s, P b s → P' b s) → vx e s P → vx' e s P') (hQ : ∀ d s, Q d s → Q' d s) : ∀ (n i : Nat) (env : Env) (st : Store), dcmN j tg tests kx vx h Q n i env st → dcmN j tg tests' kx' vx' h Q' n i env st
  | 0, _, _, _, q => q.elim
  | n + 1, i, env, st, q => by
    unfold dcmN at q ⊢
    split at q
    · exact q.elim
    · exact hQ _ _ q
    · split at q
      · exact q.elim
      · refine ht _ _ _ _ (fun b s z => ?_) q
        cases b with
        | false =>
          rw [if_neg Bool.false_ne_true] at z ⊢
          exact dcmN_mono ht hk hv hQ n (i + 1) _ _ z
        | true =>
          rw [if_pos rfl] at z ⊢
          refine hk _ _ _ _ (fun x s2 z2 => hv _ _ _ _ (fun y s3 z3 => ?_) z2) z
          split at z3
          · exact ⟨z3.1, z3.2.1, dcmN_mono ht hk hv hQ n (i + 1) _ _ z3.2.2⟩
          · exact z3.elim
def MonoC (C : Calls) : Prop := ∀ (f : Nat) (ds : List D) (st : Store) (Q Q' : QE) (X X' : QX), (∀ d s, Q d s → Q' d s) → (∀ x s, X x s → X' x s) → C f ds st Q X → C f ds st Q' X'
section
variable {T : Tab} {C : Calls} {hx : Option Exc} (hC : MonoC C)
include hC
mutual
theorem wpE_mono : ∀ (e : E) (env : Env) (st : Store) (Q Q' : QE) (X X' : QX), (∀ d s, Q d s → Q' d s) → (∀ x s, X x s → X' x s) → wpE T C hx e env st Q X → wpE T C hx e env st Q' X'
  | .var i, env, st, Q, Q', X, X', hQ, hX, h => getV_mono (fun d => hQ d st) h
  | .con d, env, st, Q, Q', X, X', hQ, hX, h => hQ _ _ h
  | .glo g, env, st, Q, Q', X, X', hQ, hX, h => by
    unfold wpE at h ⊢
    split at h
    · exact hQ _ _ h
    · exact h.elim
  | .bin o a b, env, st, Q, Q', X, X', hQ, hX, h => wpE_mono a env st _ _ _ _ (fun x s1 h1 => wpE_mono b env s1 _ _ _ _ (fun y s2 h2 => binQ_mono hQ h2) hX h1) hX h
  | .neg a, env, st, Q, Q', X, X', hQ, hX, h => wpE_mono a env st _ _ _ _ (fun x s1 h1 => by
    split at h1
    · exact hQ _ _ h1
    · exact h1.elim) hX h
  | .cmp o a b, env, st, Q, Q', X, X', hQ, hX, h => wpE_mono a env st _ _ _ _ (fun x s1 h1 => wpE_mono b env s1 _ _ _ _ (fun y s2 h2 => cmpQ_mono (fun b => hQ _ _) h2) hX h1) hX h
  | .chain o o' a b c, env, st, Q, Q', X, X', hQ, hX, h => wpE_mono a env st _ _ _ _ (fun x s1 h1 => wpE_mono b env s1 _ _ _ _ (fun y s2 h2 => cmpQ_mono (fun k h3 => by
    cases k with
    | true =>
      rw [if_pos rfl] at h3 ⊢
      exact wpE_mono c env s2 _ _ _ _ (fun z s3 h4 => cmpQ_mono (fun b => hQ _ _) h4) hX h3
    | false => exact hQ _ _ h3) h2) hX h1) hX h
  | .isN a, env, st, Q, Q', X, X', hQ, hX, h => wpE_mono a env st _ _ _ _ (fun x s1 h1 => hQ _ _ h1) hX h
  | .notN a, env, st, Q, Q', X, X', hQ, hX, h => wpE_mono a env st _ _ _ _ (fun x s1 h1 => hQ _ _ h1) hX h
  | .and a b, env, st, Q, Q', X, X', hQ, hX, h => wpE_mono a env st _ _ _ _ (fun x s1 h1 => by
    split at h1
    · rename_i c
      cases c with
      | true => exact wpE_mono b env s1 _ _ _ _ hQ hX h1
      | false => exact hQ _ _ h1
    · exact h1.elim) hX h
  | .or a b, env, st, Q, Q', X, X', hQ, hX, h => wpE_mono a env st _ _ _ _ (fun x s1 h1 => by
    split at h1
    · rename_i c
      cases c with
      | true => exact hQ _ _ h1
      | false => exact wpE_mono b env s1 _ _ _ _ hQ hX h1
    · exact h1.elim) hX h
  | .not a, env, st, Q, Q', X, X', hQ, hX, h => wpE_mono a env st _ _ _ _ (fun x s1 h1 => by
    split at h1
    · exact hQ _ _ h1
    · exact h1.elim) hX h
  | .ife c a b, env, st, Q, Q', X, X', hQ, hX, h => wpT_mono c env st _ _ _ _ (fun k s1 h1 => by
    cases k with
    | true => exact wpE_mono a env s1 _ _ _ _ hQ hX h1
    | false => exact wpE_mono b env s1 _ _ _ _ hQ hX h1) hX h
  | .call f as df, env, st, Q, Q', X, X', hQ, hX, h => ⟨h.1, wpA_mono as env st _ _ _ _ (fun ds s1 h1 => hC _ _ _ _ _ _ _ hQ hX h1) hX h.2⟩
  | .make c f as, env, st, Q, Q', X, X', hQ, hX, h => ⟨h.1, wpA_mono as env st _ _ _ _ (fun ds s1 h1 => hC _ _ _ _ _ _ _ (fun d s2 h2 => ⟨h2.1, hQ _ _ h2.2⟩) hX h1) hX h.2⟩
  | .meth alts o as, env, st, Q, Q', X, X', hQ, hX, h => ⟨h.1, wpE_mono o env st _ _ _ _ (fun x s1 h1 => by
    split at h1
    · split at h1
      · split at h1
        · exact wpA_mono as env s1 _ _ _ _ (fun ds s2 h2 => hC _ _ _ _ _ _ _ hQ hX h2) hX h1
        · exact h1.elim
      · exact h1.elim
    · exact h1.elim) hX h.2⟩
  | .fld f o, env, st, Q, Q', X, X', hQ, hX, h => wpE_mono o env st _ _ _ _ (fun x s1 h1 => fldQ_mono hQ h1) hX h
  | .pr p as, env, st, Q, Q', X, X', hQ, hX, h => ⟨h.1, wpA_mono as env st _ _ _ _ (fun ds s1 h1 => prQ_mono hQ h1) hX h.2⟩
  | .me m o as, env, st, Q, Q', X, X', hQ, hX, h => wpE_mono o env st _ _ _ _ (fun x s1 h1 => ⟨h1.1, wpA_mono as env s1 _ _ _ _ (fun ds s2 h2 => meQ_mono hQ h2) hX h1.2⟩) hX h
  | .isi a ts, env, st, Q, Q', X, X', hQ, hX, h => wpE_mono a env st _ _ _ _ (fun x s1 h1 => ⟨h1.1, hQ _ _ h1.2⟩) hX h
  | .idx a b, env, st, Q, Q', X, X', hQ, hX, h => wpE_mono a env st _ _ _ _ (fun x s1 h1 => wpE_mono b env s1 _ _ _ _ (fun y s2 h2 => idxQ_mono hQ h2) hX h1) hX h
  | .sli a lo hi, env, st, Q, Q', X, X', hQ, hX, h => wpE_mono a env st _ _ _ _ (fun x s1 h1 => wpE_mono lo env s1 _ _ _ _ (fun l s2 h2 => partQ_mono (fun l' h3 => wpE_mono hi env s2 _ _ _ _ (fun u s3 h4 => partQ_mono (fun u' h5 => sliQ_mono hQ h5) h4) hX h3) h2) hX h1) hX h
  | .abs0, env, st, Q, Q', X, X', hQ, hX, h => hQ _ _ h
  | .tup as, env, st, Q, Q', X, X', hQ, hX, h => wpA_mono as env st _ _ _ _ (fun ds s1 h1 => hQ _ _ h1) hX h
  | .lst as, env, st, Q, Q', X, X', hQ, hX, h => wpA_mono as env st _ _ _ _ (fun ds s1 h1 => hQ _ _ h1) hX h
  | .dic _, _, _, _, _, _, _, _, _, h => h.elim
  | .comp elt tg it cs own, env, st, Q, Q', X, X', hQ, hX, h => ⟨h.1, wpI_mono it env st _ _ _ _ (fun j s1 ⟨n, h1⟩ => ⟨n, cmpN_mono (fun e s P P' hP => wpTs_mono cs e s P P' hP) (fun e s P P' hP => wpE_mono elt e s P P' _ _ hP fun _ _ z => z) hQ n 0 _ _ h1⟩) hX h.2⟩
  | .dcomp _ _ _ _ _ _, _, _, _, _, _, _, _, _, h => h.elim
  | .fstr as, env, st, Q, Q', X, X', hQ, hX, h => wpF_mono as env st _ _ _ _ _ (fun y s1 => hQ _ _) hX h
  | .efld f, env, st, Q, Q', X, X', hQ, hX, h => by
    unfold wpE at h ⊢
    split at h
    · split at h
      · exact hQ _ _ h
      · exact h.elim
    · exact h.elim
  | .eisi cs, env, st, Q, Q', X, X', hQ, hX, h => by
    unfold wpE at h ⊢
    split at h
    · exact hQ _ _ h
    · exact h.elim
  | .rng1 _, _, _, _, _, _, _, _, _, h => h.elim
  | .rng2 _ _, _, _, _, _, _, _, _, _, h => h.elim
  | .enm _, _, _, _, _, _, _, _, _, h => h.elim
  | .zip _ _, _, _, _, _, _, _, _, _, h => h.elim
  | .tv _, _, _, _, _, _, _, _, _, h => h.elim
  | .sq _, _, _, _, _, _, _, _, _, h => h.elim
  | .bad, _, _, _, _, _, _, _, _, h => h.elim
theorem wpT_mono : ∀ (e : E) (env : Env) (st : Store) (Q Q' : Bool → Store → Prop) (X X' : QX), (∀ d s, Q d s → Q' d s) → (∀ x s, X x s → X' x s) → wpT T C hx e env st Q X → wpT T C hx e env st Q' X'
  | .cmp o a b, env, st, Q, Q', X, X', hQ, hX, h => wpE_mono a env st _ _ _ _ (fun x s1 h1 => wpE_mono b env s1 _ _ _ _ (fun y s2 h2 => cmpQ_mono (fun b => hQ _ _) h2) hX h1) hX h
  | .chain o o' a b c, env, st, Q, Q', X, X', hQ, hX, h => wpE_mono a env st _ _ _ _ (fun x s1 h1 => wpE_mono b env s1 _ _ _ _ (fun y s2 h2 => cmpQ_mono (fun k h3 => by
    cases k with
    | true =>
      rw [if_pos rfl] at h3 ⊢
      exact wpE_mono c env s2 _ _ _ _ (fun z s3 h4 => cmpQ_mono (fun b => hQ _ _) h4) hX h3
    | false => exact hQ _ _ h3) h2) hX h1) hX h
  | .isN a, env, st, Q, Q', X, X', hQ, hX, h => wpE_mono a env st _ _ _ _ (fun x s1 h1 => hQ _ _ h1) hX h
  | .notN a, env, st, Q, Q', X, X', hQ, hX, h => wpE_mono a env st _ _ _ _ (fun x s1 h1 => hQ _ _ h1) hX h
  | .and a b, env, st, Q, Q', X, X', hQ, hX, h => wpT_mono a env st _ _ _ _ (fun k s1 h1 => by
    cases k with
    | true => exact wpT_mono b env s1 _ _ _ _ hQ hX h1
    | false => exact hQ _ _ h1) hX h
  | .or a b, env, st, Q, Q', X, X', hQ, hX, h => wpT_mono a env st _ _ _ _ (fun k s1 h1 => by
    cases k with
    | true => exact hQ _ _ h1
    | false => exact wpT_mono b env s1 _ _ _ _ hQ hX h1) hX h
  | .not a, env, st, Q, Q', X, X', hQ, hX, h => wpT_mono a env st _ _ _ _ (fun k s1 h1 => hQ _ _ h1) hX h
  | .tv a, env, st, Q, Q', X, X', hQ, hX, h => wpE_mono a env st _ _ _ _ (fun x s1 h1 => truQ_mono (fun k => hQ _ _) h1) hX h
  | .var _, _, _, _, _, _, _, _, _, h => h.elim
  | .con _, _, _, _, _, _, _, _, _, h => h.elim
  | .glo _, _, _, _, _, _, _, _, _, h => h.elim
  | .bin _ _ _, _, _, _, _, _, _, _, _, h => h.elim
  | .neg _, _, _, _, _, _, _, _, _, h => h.elim
  | .ife _ _ _, _, _, _, _, _, _, _, _, h => h.elim
  | .call _ _ _, _, _, _, _, _, _, _, _, h => h.elim
  | .make _ _ _, _, _, _, _, _, _, _, _, h => h.elim
  | .meth _ _ _, _, _, _, _, _, _, _, _, h => h.elim
  | .fld _ _, _, _, _, _, _, _, _, _, h => h.elim
  | .pr _ _, _, _, _, _, _, _, _, _, h => h.elim
  | .me _ _ _, _, _, _, _, _, _, _, _, h => h.elim
  | .isi _ _, _, _, _, _, _, _, _, _, h => h.elim
  | .idx _ _, _, _, _, _, _, _, _, _, h => h.elim
  | .sli _ _ _, _, _, _, _, _, _, _, _, h => h.elim
  | .abs0, _, _, _, _, _, _, _, _, h => h.elim
  | .tup _, _, _, _, _, _, _, _, _, h => h.elim
  | .lst _, _, _, _, _, _, _, _, _, h => h.elim
  | .dic _, _, _, _, _, _, _, _, _, h => h.elim
  | .comp _ _ _ _ _, _, _, _, _, _, _, _, _, h => h.elim
  | .dcomp _ _ _ _ _ _, _, _, _, _, _, _, _, _, h => h.elim
  | .fstr _, _, _, _, _, _, _, _, _, h => h.elim
  | .efld _, _, _, _, _, _, _, _, _, h => h.elim
  | .eisi _, _, _, _, _, _, _, _, _, h => h.elim
  | .rng1 _, _, _, _, _, _, _, _, _, h => h.elim
  | .rng2 _ _, _, _, _, _, _, _, _, _, h => h.elim
  | .enm _, _, _, _, _, _, _, _, _, h => h.elim
  | .zip _ _, _, _, _, _, _, _, _, _, h => h.elim
  | .sq _, _, _, _, _, _, _, _, _, h => h.elim
  | .bad, _, _, _, _, _, _, _, _, h => h.elim
theorem wpA_mono : ∀ (as : A) (env : Env) (st : Store) (Q Q' : List D → Store → Prop) (X X' : QX), (∀ d s, Q d s → Q' d s) → (∀ x s, X x s → X' x s) → wpA T C hx as env st Q X → wpA T C hx as env st Q' X'
  | .nil, env, st, Q, Q', X, X', hQ, hX, h => hQ _ _ h
  | .cons e as, env, st, Q, Q', X, X', hQ, hX, h => wpE_mono e env st _ _ _ _ (fun d s1 h1 => wpA_mono as env s1 _ _ _ _ (fun ds s2 h2 => hQ _ _ h2) hX h1) hX h
theorem wpF_mono : ∀ (as : A) (env : Env) (st : Store) (acc : List Nat) (Q Q' : List Nat → Store → Prop) (X X' : QX), (∀ d s, Q d s → Q' d s) → (∀ x s, X x s → X' x s) → wpF T C hx as env st acc Q X → wpF T C hx as env st acc Q' X'
  | .nil, env, st, acc, Q, Q', X, X', hQ, hX, h => hQ _ _ h
  | .cons e as, env, st, acc, Q, Q', X, X', hQ, hX, h => wpE_mono e env st _ _ _ _ (fun d s1 h1 => fmtQ_mono (x := d) (fun y z => ⟨z.1, wpF_mono as env s1 _ _ _ _ _ hQ hX z.2⟩) h1) hX h
theorem wpTs_mono : ∀ (as : A) (env : Env) (st : Store) (Q Q' : Bool → Store → Prop), (∀ d s, Q d s → Q' d s) → wpTs T C hx as env st Q → wpTs T C hx as env st Q'
  | .nil, env, st, Q, Q', hQ, h => hQ _ _ h
  | .cons e .nil, env, st, Q, Q', hQ, h => wpT_mono e env st _ _ _ _ hQ (fun _ _ z => z) h
  | .cons _ (.cons _ _), _, _, _, _, _, h => h.elim
theorem wpI_mono : ∀ (e : E) (env : Env) (st : Store) (Q Q' : J → Store → Prop) (X X' : QX), (∀ d s, Q d s → Q' d s) → (∀ x s, X x s → X' x s) → wpI T C hx e env st Q X → wpI T C hx e env st Q' X'
  | .rng1 a, env, st, Q, Q', X, X', hQ, hX, h => wpE_mono a env st _ _ _ _ (fun x s1 h1 => by
    split at h1
    · exact ⟨h1.1, h1.2.1, hQ _ _ h1.2.2⟩
    · exact h1.elim) hX h
  | .rng2 a b, env, st, Q, Q', X, X', hQ, hX, h => wpE_mono a env st _ _ _ _ (fun x s1 h1 => wpE_mono b env s1 _ _ _ _ (fun y s2 h2 => by
    split at h2
    · exact ⟨h2.1, hQ _ _ h2.2⟩
    · exact h2.elim) hX h1) hX h
  | .enm a, env, st, Q, Q', X, X', hQ, hX, h => wpE_mono a env st _ _ _ _ (fun x s1 h1 => enmQ_mono (fun j => hQ _ _) h1) hX h
  | .zip a b, env, st, Q, Q', X, X', hQ, hX, h => wpE_mono a env st _ _ _ _ (fun x s1 h1 => wpE_mono b env s1 _ _ _ _ (fun y s2 h2 => zipQ_mono (fun j => hQ _ _) h2) hX h1) hX h
  | .sq a, env, st, Q, Q', X, X', hQ, hX, h => wpE_mono a env st _ _ _ _ (fun x s1 h1 => walkQ_mono (fun j => hQ _ _) h1) hX h
  | .var _, _, _, _, _, _, _, _, _, h => h.elim
  | .con _, _, _, _, _, _, _, _, _, h => h.elim
  | .glo _, _, _, _, _, _, _, _, _, h => h.elim
  | .bin _ _ _, _, _, _, _, _, _, _, _, h => h.elim
  | .neg _, _, _, _, _, _, _, _, _, h => h.elim
  | .cmp _ _ _, _, _, _, _, _, _, _, _, h => h.elim
  | .chain _ _ _ _ _, _, _, _, _, _, _, _, _, h => h.elim
  | .isN _, _, _, _, _, _, _, _, _, h => h.elim
  | .notN _, _, _, _, _, _, _, _, _, h => h.elim
  | .and _ _, _, _, _, _, _, _, _, _, h => h.elim
  | .or _ _, _, _, _, _, _, _, _, _, h => h.elim
  | .not _, _, _, _, _, _, _, _, _, h => h.elim
  | .ife _ _ _, _, _, _, _, _, _, _, _, h => h.elim
  | .call _ _ _, _, _, _, _, _, _, _, _, h => h.elim
  | .make _ _ _, _, _, _, _, _, _, _, _, h => h.elim
  | .meth _ _ _, _, _, _, _, _, _, _, _, h => h.elim
  | .fld _ _, _, _, _, _, _, _, _, _, h => h.elim
  | .pr _ _, _, _, _, _, _, _, _, _, h => h.elim
  | .me _ _ _, _, _, _, _, _, _, _, _, h => h.elim
  | .isi _ _, _, _, _, _, _, _, _, _, h => h.elim
  | .idx _ _, _, _, _, _, _, _, _, _, h => h.elim
  | .sli _ _ _, _, _, _, _, _, _, _, _, h => h.elim
  | .abs0, _, _, _, _, _, _, _, _, h => h.elim
  | .tup _, _, _, _, _, _, _, _, _, h => h.elim
  | .lst _, _, _, _, _, _, _, _, _, h => h.elim
  | .dic _, _, _, _, _, _, _, _, _, h => h.elim
  | .comp _ _ _ _ _, _, _, _, _, _, _, _, _, h => h.elim
  | .dcomp _ _ _ _ _ _, _, _, _, _, _, _, _, _, h => h.elim
  | .fstr _, _, _, _, _, _, _, _, _, h => h.elim
  | .efld _, _, _, _, _, _, _, _, _, h => h.elim
  | .eisi _, _, _, _, _, _, _, _, _, h => h.elim
  | .tv _, _, _, _, _, _, _, _, _, h => h.elim
  | .bad, _, _, _, _, _, _, _, _, h => h.elim
end
end
mutual
theorem wpS_mono {T : Tab} {C : Calls} (hC : MonoC C) : ∀ (s : S) (hx : Option Exc) (env : Env) (st : Store) (k k' : K), k.Le k' → wpS T C hx s env st k → wpS T C hx s env st k'
  | .asg tg e, hx, env, st, k, k', hk, h => ⟨h.1, wpE_mono hC e env st _ _ _ _ (fun d s1 h1 => by
    split at h1
    · exact hk.nx _ _ h1
    · exact h1.elim) (fun x s1 => hk.xc x env s1) h.2⟩
  | .asg2 i j a b, hx, env, st, k, k', hk, h => ⟨h.1, wpE_mono hC a env st _ _ _ _ (fun x s1 h1 => wpE_mono hC b env s1 _ _ _ _ (fun y s2 h2 => hk.nx _ _ h2) (fun x s1 => hk.xc x env s1) h1) (fun x s1 => hk.xc x env s1) h.2⟩
  | .setf o f e, hx, env, st, k, k', hk, h => wpE_mono hC e env st _ _ _ _ (fun v s1 h1 => wpE_mono hC o env s1 _ _ _ _ (fun x s2 h2 => setfQ_mono (fun s3 => hk.nx _ _) h2) (fun x s1 => hk.xc x env s1) h1) (fun x s1 => hk.xc x env s1) h
  | .seti o i e, hx, env, st, k, k', hk, h => wpE_mono hC e env st _ _ _ _ (fun v s1 h1 => wpE_mono hC o env s1 _ _ _ _ (fun x s2 h2 => wpE_mono hC i env s2 _ _ _ _ (fun y s3 h3 => setQ_mono (fun s4 => hk.nx _ _) h3) (fun x s1 => hk.xc x env s1) h2) (fun x s1 => hk.xc x env s1) h1) (fun x s1 => hk.xc x env s1) h
  | .augn i op e, hx, env, st, k, k', hk, h => getV_mono (fun x h0 => wpE_mono hC e env st _ _ _ _ (fun y s1 h1 => by
    split at h1
    · exact hk.nx _ _ h1
    · exact hk.nx _ _ h1
    · exact h1.elim) (fun x s1 => hk.xc x env s1) h0) h
  | .augf o f op e, hx, env, st, k, k', hk, h => wpE_mono hC o env st _ _ _ _ (fun x s1 h1 => fldQ_mono (fun v s1 h2 => wpE_mono hC e env s1 _ _ _ _ (fun y s2 h3 => by
    split at h3
    · exact ⟨h3.1, setfQ_mono (fun s3 => hk.nx _ _) h3.2⟩
    · exact ⟨h3.1, setfQ_mono (fun s3 => hk.nx _ _) h3.2⟩
    · exact h3.elim) (fun x s1 => hk.xc x env s1) h2) h1) (fun x s1 => hk.xc x env s1) h
  | .exp e, hx, env, st, k, k', hk, h => wpE_mono hC e env st _ _ _ _ (fun d s1 h1 => hk.nx _ _ h1) (fun x s1 => hk.xc x env s1) h
  | .ret e, hx, env, st, k, k', hk, h => wpE_mono hC e env st _ _ _ _ (fun d s1 h1 => hk.rt _ _ h1) (fun x s1 => hk.xc x env s1) h
  | .retN, hx, env, st, k, k', hk, h => hk.rt _ _ h
  | .ifS c a b, hx, env, st, k, k', hk, h => wpT_mono hC c env st _ _ _ _ (fun t s1 h1 => by
    cases t with
    | true => exact wpB_mono hC a hx env s1 _ _ hk h1
    | false => exact wpB_mono hC b hx env s1 _ _ hk h1) (fun x s1 => hk.xc x env s1) h
  | .forS tg it b, hx, env, st, k, k', hk, h => ⟨h.1, wpI_mono hC it env st _ _ _ _ (fun j s1 ⟨n, h1⟩ => ⟨n, forN_mono (fun e s q q' hq => wpB_mono hC b hx e s q q' hq) hk n 0 env s1 h1⟩) (fun x s1 => hk.xc x env s1) h.2⟩
  | .whl c b, hx, env, st, k, k', hk, h => ⟨h.1, h.2.elim fun n h1 => ⟨n, whlN_mono (fun e s P P' hP => wpT_mono hC c e s P P' _ _ hP fun x s1 => hk.xc x e s1) (fun e s q q' hq => wpB_mono hC b hx e s q q' hq) hk n env st h1⟩⟩
  | .brk, hx, env, st, k, k', hk, h => hk.bk _ _ h
  | .cnt, hx, env, st, k, k', hk, h => hk.ct _ _ h
  | .pas, hx, env, st, k, k', hk, h => hk.nx _ _ h
  | .rais c .nil, hx, env, st, k, k', hk, h => by
    unfold wpS at h ⊢
    refine ⟨h.1, ?_⟩
    have h2 := h.2
    split at h2
    · exact hk.xc _ _ _ h2
    · rename_i e; cases e
    · exact h2.elim
  | .rais c (.cons e .nil), hx, env, st, k, k', hk, h => by
    unfold wpS at h ⊢
    refine ⟨h.1, ?_⟩
    have h2 := h.2
    split at h2
    · rename_i e; cases e
    · rename_i e1 e2
      cases e2
      exact wpE_mono hC e env st _ _ _ _ (fun d s1 => hk.xc _ _ _) (fun x s1 => hk.xc x env s1) h2
    · exact h2.elim
  | .rais c (.cons _ (.cons _ _)), hx, env, st, k, k', hk, h => by
    unfold wpS at h ⊢
    refine ⟨h.1, ?_⟩
    have h2 := h.2
    split at h2
    · rename_i e; cases e
    · rename_i e; cases e
    · exact h2.elim
  | .tryS b hs, hx, env, st, k, k', hk, h => by
    refine ⟨h.1, wpB_mono hC b hx env st _ _ ?_ h.2⟩
    exact ⟨hk.nx, hk.rt, hk.bk, hk.ct, fun x e s => wpH_mono hC hs x e s k k' hk⟩
  | .del _ _, _, _, _, _, _, _, h => h.elim
  | .bad, _, _, _, _, _, _, h => h.elim
theorem wpB_mono {T : Tab} {C : Calls} (hC : MonoC C) : ∀ (b : B) (hx : Option Exc) (env : Env) (st : Store) (k k' : K), k.Le k' → wpB T C hx b env st k → wpB T C hx b env st k'
  | .nil, hx, env, st, k, k', hk, h => hk.nx _ _ h
  | .cons s b, hx, env, st, k, k', hk, h => by
    unfold wpB at h ⊢
    refine wpS_mono hC s hx env st _ _ ?_ h
    exact ⟨fun e s' => wpB_mono hC b hx e s' k k' hk, hk.rt, hk.bk, hk.ct, hk.xc⟩
theorem wpH_mono {T : Tab} {C : Calls} (hC : MonoC C) : ∀ (hs : Hs) (x : Exc) (env : Env) (st : Store) (k k' : K), k.Le k' → wpH T C hs x env st k → wpH T C hs x env st k'
  | .nil, x, env, st, k, k', hk, h => hk.xc _ _ _ h
  | .cons c nm b hs, x, env, st, k, k', hk, h => by
    unfold wpH at h ⊢
    split at h
    · rename_i e
      rw [if_pos e]
      refine wpB_mono hC b _ _ _ _ _ ?_ h
      exact ⟨fun e' s' => hk.nx _ _, hk.rt, fun _ _ z => z, fun _ _ z => z, fun _ _ _ z => z⟩
    · rename_i e
      rw [if_neg e]
      exact wpH_mono hC hs x env st k k' hk h
end
theorem Call_mono (T : Tab) : ∀ n : Nat, MonoC (Call T n)
  | 0, _, _, _, _, _, _, _, _, _, h => h.elim
  | n + 1, f, ds, st, Q, Q', X, X', hQ, hX, h => by
    unfold Call at h ⊢
    split at h
    · exact h.elim
    · refine ⟨h.1, wpB_mono (Call_mono T n) _ _ _ _ _ _ ?_ h.2⟩
      exact ⟨fun _ s => hQ _ _, hQ, fun _ _ z => z, fun _ _ z => z, fun x _ s => hX x s⟩
end Y
set_option linter.all false
set_option maxHeartbeats 4000000
namespace Y
open PySem PySem.Spec PyProof.Rows L2
structure G where
  K : PySem.W.Frag
  fa : Nat → Addr
  ca : Nat → Addr
  ka : Nat → Addr
  nm : Nat → Option Str
  okc : Nat → Bool
  oke : Nat → Bool
abbrev Mp := Nat → Option Addr
mutual
def RD (g : G) (m : Mp) (H : Hp) : D → V → Prop
  | .non, v => v = .non
  | .bl b, v => v = .bl b
  | .int i, v => v = .int i
  | .str x, v => v = .str ⟨x.toArray⟩
  | .tup ds, v => ∃ a vs, v = .ref a ∧ SqT g.K H a vs ∧ RDs g m H ds vs
  | .ref h, v => ∃ a, v = .ref a ∧ m h = some a
  | .kon k, v => v = .ref (g.ka k)
def RDs (g : G) (m : Mp) (H : Hp) : List D → List V → Prop
  | [], vs => vs = []
  | d :: ds, vs => ∃ v r, vs = v :: r ∧ RD g m H d v ∧ RDs g m H ds r
end
structure Ext (m m' : Mp) (H H' : Hp) : Prop where
  mm : ∀ h a, m h = some a → m' h = some a
  tt : ∀ b xs, Rd H b (.tup xs) → Rd H' b (.tup xs)
  xd : ∀ b fs, H b = some (.xd fs) → H' b = some (.xd fs)
theorem Ext.refl (m : Mp) (H : Hp) : Ext m m H H := ⟨fun _ _ h => h, fun _ _ h => h, fun _ _ h => h⟩
theorem Ext.trans {m m1 m2 : Mp} {H H1 H2 : Hp} (a : Ext m m1 H H1) (b : Ext m1 m2 H1 H2) : Ext m m2 H H2 :=
  ⟨fun h x e => b.mm h x (a.mm h x e), fun p xs r => b.tt p xs (a.tt p xs r), fun p fs r => b.xd p fs (a.xd p fs r)⟩
theorem SqT.ext {K : PySem.W.Frag} {m m' : Mp} {H H' : Hp} {a : Addr} {xs : List V} (e : Ext m m' H H') (h : SqT K H a xs) : SqT K H' a xs := by
  rcases h with h | h
  · exact .inl (e.tt _ _ h)
  · exact .inr h
section
variable {g : G} {m m' : Mp} {H H' : Hp}
mutual
theorem RD.mono (e : Ext m m' H H') : ∀ (d : D) (v : V), RD g m H d v → RD g m' H' d v
  | .non, _, h => h
  | .bl _, _, h => h
  | .int _, _, h => h
  | .str _, _, h => h
  | .tup ds, _, h => by
    obtain ⟨a, vs, h1, h2, h3⟩ := h
    exact ⟨a, vs, h1, SqT.ext e h2, RDs.mono e ds vs h3⟩
  | .ref _, _, h => by
    obtain ⟨a, h1, h2⟩ := h
    exact ⟨a, h1, e.mm _ _ h2⟩
  | .kon _, _, h => h
theorem RDs.mono (e : Ext m m' H H') : ∀ (ds : List D) (vs : List V), RDs g m H ds vs → RDs g m' H' ds vs
  | [], _, h => h
  | d :: ds, _, h => by
    obtain ⟨v, r, h1, h2, h3⟩ := h
    exact ⟨v, r, h1, RD.mono e d v h2, RDs.mono e ds r h3⟩
end
theorem RDs.length : ∀ {ds : List D} {vs : List V}, RDs g m H ds vs → vs.length = ds.length
  | [], _, h => by rw [show _ = [] from h]; rfl
  | d :: ds, _, h => by
    obtain ⟨v, r, rfl, _, h3⟩ := h
    simp [h3.length]
theorem RDs.get : ∀ {ds : List D} {vs : List V} {i : Nat} {d : D}, RDs g m H ds vs → ds[i]? = some d → ∃ v, vs[i]? = some v ∧ RD g m H d v
  | [], _, _, _, _, e => by simp at e
  | x :: ds, _, 0, d, h, e => by
    obtain ⟨v, r, rfl, h2, _⟩ := h
    simp at e
    subst e
    exact ⟨v, rfl, h2⟩
  | x :: ds, _, i + 1, d, h, e => by
    obtain ⟨v, r, rfl, _, h3⟩ := h
    obtain ⟨w, q1, q2⟩ := h3.get (i := i) (d := d) (by simpa using e)
    exact ⟨w, by simpa using q1, q2⟩
theorem RDs.app : ∀ {ds es : List D} {vs ws : List V}, RDs g m H ds vs → RDs g m H es ws → RDs g m H (ds ++ es) (vs ++ ws)
  | [], _, _, _, h, h' => by rw [show _ = [] from h]; exact h'
  | d :: ds, _, _, _, h, h' => by
    obtain ⟨v, r, rfl, h2, h3⟩ := h
    exact ⟨v, r ++ _, rfl, h2, h3.app h'⟩
theorem RDs.take : ∀ {ds : List D} {vs : List V} (n : Nat), RDs g m H ds vs → RDs g m H (ds.take n) (vs.take n)
  | [], _, n, h => by rw [show _ = [] from h]; simp [RDs]
  | d :: ds, _, 0, h => by simp [RDs]
  | d :: ds, _, n + 1, h => by
    obtain ⟨v, r, rfl, h2, h3⟩ := h
    exact ⟨v, r.take n, rfl, h2, h3.take n⟩
theorem RDs.drop : ∀ {ds : List D} {vs : List V} (n : Nat), RDs g m H ds vs → RDs g m H (ds.drop n) (vs.drop n)
  | [], _, n, h => by rw [show _ = [] from h]; simp [RDs]
  | d :: ds, _, 0, h => h
  | d :: ds, _, n + 1, h => by
    obtain ⟨v, r, rfl, h2, h3⟩ := h
    exact h3.drop n
theorem RDs.set : ∀ {ds : List D} {vs : List V} {d : D} {v : V} (i : Nat), RDs g m H ds vs → RD g m H d v → RDs g m H (ds.set i d) (vs.set i v)
  | [], _, _, _, _, h, _ => by rw [show _ = [] from h]; exact rfl
  | x :: ds, _, d, v, 0, h, q => by
    obtain ⟨w, r, rfl, h2, h3⟩ := h
    exact ⟨v, r, rfl, q, h3⟩
  | x :: ds, _, d, v, i + 1, h, q => by
    obtain ⟨w, r, rfl, h2, h3⟩ := h
    exact ⟨w, r.set i v, rfl, h2, h3.set i q⟩
theorem RDs.one {d : D} {v : V} (h : RD g m H d v) : RDs g m H [d] [v] := ⟨v, [], rfl, h, rfl⟩
theorem RDs.nil : RDs g m H [] [] := rfl
theorem RDs.cons {d : D} {v : V} {ds : List D} {vs : List V} (h : RD g m H d v) (t : RDs g m H ds vs) : RDs g m H (d :: ds) (v :: vs) := ⟨v, vs, rfl, h, t⟩
theorem RDs.rev {ds : List D} {vs : List V} (h : RDs g m H ds vs) : RDs g m H ds.reverse vs.reverse := by
  induction ds generalizing vs with
  | nil =>
    rw [show vs = [] from h]
    exact rfl
  | cons d ds ih =>
    obtain ⟨v, r, rfl, h2, h3⟩ := h
    rw [List.reverse_cons, List.reverse_cons]
    exact (ih h3).app (.one h2)
theorem RDs.rep {ds : List D} {vs : List V} (h : RDs g m H ds vs) : ∀ n : Nat, RDs g m H (List.replicate n ds).flatten (List.replicate n vs).flatten
  | 0 => rfl
  | n + 1 => by
    rw [List.replicate_succ, List.replicate_succ, List.flatten_cons, List.flatten_cons]
    exact h.app (RDs.rep h n)
theorem RDs.dropLast {ds : List D} {vs : List V} (h : RDs g m H ds vs) : RDs g m H ds.dropLast vs.dropLast := by
  rw [List.dropLast_eq_take, List.dropLast_eq_take, h.length]
  exact h.take _
theorem RDs.two {a b : D} {vs : List V} (h : RDs g m H [a, b] vs) : ∃ v w, vs = [v, w] ∧ RD g m H a v ∧ RD g m H b w := by
  obtain ⟨v, r, rfl, h2, w, r2, rfl, h3, h4⟩ := h
  rw [show r2 = [] from h4]
  exact ⟨v, w, rfl, h2, h3⟩
theorem RDs.un1 {a : D} {vs : List V} (h : RDs g m H [a] vs) : ∃ v, vs = [v] ∧ RD g m H a v := by
  obtain ⟨v, r, rfl, h2, h3⟩ := h
  rw [show r = [] from h3]
  exact ⟨v, rfl, h2⟩
def kD : Key → D
  | .inl i => .int i
  | .inr x => .str x.cps.toList
theorem kD_inj {a b : Key} (h : kD a = kD b) : a = b := by
  cases a with
  | inl i => cases b with
    | inl j => injection h with h; rw [h]
    | inr y => cases h
  | inr x => cases b with
    | inl j => cases h
    | inr y =>
      injection h with h
      obtain ⟨⟨l⟩⟩ := x
      obtain ⟨⟨k⟩⟩ := y
      have e : l = k := h
      rw [e]
def RK (g : G) (m : Mp) (H : Hp) : List (D × D) → List (Key × V) → Prop := Paired fun p q => p.1 = kD q.1 ∧ RD g m H p.2 q.2
def RT (g : G) (m : Mp) (H : Hp) : List (D × D) → List (List Key × V) → Prop := Paired fun p q => p.1 = .tup (q.1.map kD) ∧ RD g m H p.2 q.2
def RF (g : G) (m : Mp) (H : Hp) : List (Nat × D) → List (Str × V) → Prop := Paired fun p q => g.nm p.1 = some q.1 ∧ RD g m H p.2 q.2
theorem RK.mono (e : Ext m m' H H') {ps : List (D × D)} {qs : List (Key × V)} (h : RK g m H ps qs) : RK g m' H' ps qs := Paired.mapP h fun _ _ z => ⟨z.1, RD.mono e _ _ z.2⟩
theorem RT.mono (e : Ext m m' H H') {ps : List (D × D)} {qs : List (List Key × V)} (h : RT g m H ps qs) : RT g m' H' ps qs := Paired.mapP h fun _ _ z => ⟨z.1, RD.mono e _ _ z.2⟩
theorem RF.mono (e : Ext m m' H H') {ps : List (Nat × D)} {qs : List (Str × V)} (h : RF g m H ps qs) : RF g m' H' ps qs := Paired.mapP h fun _ _ z => ⟨z.1, RD.mono e _ _ z.2⟩
def KL (K : PySem.W.Frag) (a : Addr) (vs : List V) : Prop := ∃ (o : Obj) (its : Array Value) (n : Nat), K.lookup a = some o ∧ o.cls = .type "list" ∧ o.dict = none ∧ o.data = .seq its n ∧ its.size ≤ sizeLine ∧ Vals vs its.toList
def RO (g : G) (m : Mp) (H : Hp) (a : Addr) : O → Prop
  | .lst ds => ∃ vs, H a = some (.lst vs) ∧ RDs g m H ds vs
  | .fro ds => ∃ vs, ((∃ o, H a = some (.frz o (.lst vs))) ∨ KL g.K a vs) ∧ RDs g m H ds vs
  | .dic kvs => (∃ ps, H a = some (.dK ps) ∧ RK g m H kvs ps) ∨ ∃ ps, H a = some (.dT ps) ∧ RT g m H kvs ps
  | .ins c fs => ∃ dx vs, H a = some (.ins (g.ca c) dx vs) ∧ RF g m H fs vs ∧ g.okc c = true
def isFro : Option O → Bool
  | some (.fro _) => true
  | _ => false
theorem RO.mono (e : Ext m m' H H') {a : Addr} (k : ∀ u, H a = some u → H' a = some u) : ∀ {o : O}, RO g m H a o → RO g m' H' a o
  | .lst ds, ⟨vs, h1, h2⟩ => ⟨vs, k _ h1, RDs.mono e _ _ h2⟩
  | .fro ds, ⟨vs, h1, h2⟩ => ⟨vs, h1.elim (fun ⟨o, z⟩ => .inl ⟨o, k _ z⟩) .inr, RDs.mono e _ _ h2⟩
  | .dic kvs, .inl ⟨ps, h1, h2⟩ => .inl ⟨ps, k _ h1, h2.mono e⟩
  | .dic kvs, .inr ⟨ps, h1, h2⟩ => .inr ⟨ps, k _ h1, h2.mono e⟩
  | .ins c fs, ⟨dx, vs, h1, h2, h3⟩ => ⟨dx, vs, k _ h1, h2.mono e, h3⟩
theorem RO.mut {a : Addr} : ∀ {o : O}, RO g m H a o → isFro (some o) = false → Mut (H a)
  | .lst ds, ⟨vs, h1, _⟩, _ => by rw [h1]; trivial
  | .fro ds, _, h => by cases h
  | .dic kvs, .inl ⟨ps, h1, _⟩, _ => by rw [h1]; trivial
  | .dic kvs, .inr ⟨ps, h1, _⟩, _ => by rw [h1]; trivial
  | .ins c fs, ⟨dx, vs, h1, _⟩, _ => by rw [h1]; trivial
structure SR (g : G) (m : Mp) (H : Hp) (st : Store) : Prop where
  at_ : ∀ (h : Nat) (o : O), st[h]? = some o → ∃ a, m h = some a ∧ RO g m H a o
  dom : ∀ h : Nat, st.length ≤ h → m h = none
  inj : ∀ (h h' : Nat) (a : Addr), m h = some a → m h' = some a → isFro st[h]? = false → isFro st[h']? = false → h = h'
def put (m : Mp) (n : Nat) (p : Addr) : Mp := fun h => if h = n then some p else m h
theorem put_same {n : Nat} {p : Addr} : put m n p n = some p := if_pos rfl
theorem put_ne {n h : Nat} {p : Addr} (e : h ≠ n) : put m n p h = m h := if_neg e
theorem SR.lt {st : Store} (S : SR g m H st) {h : Nat} {a : Addr} (e : m h = some a) : h < st.length := by
  rcases Nat.lt_or_ge h st.length with z | z
  · exact z
  · rw [S.dom h z] at e
    cases e
theorem SR.get {st : Store} (S : SR g m H st) {h : Nat} {a : Addr} {o : O} (e : m h = some a) (q : st[h]? = some o) : RO g m H a o := by
  obtain ⟨b, e2, r⟩ := S.at_ h o q
  rw [e] at e2
  cases e2
  exact r
theorem ext_new {a : Addr} {u : HO} (n : H a = none) (k : ∀ h b, m h = some b → m' h = some b) : Ext m m' H (upd H a u) := by
  refine ⟨k, fun b xs r => ?_, fun b fs r => ?_⟩
  · have ne : b ≠ a := by
      rcases r with r | ⟨o, r⟩
      · exact ne_of_none r n
      · exact ne_of_none r n
    rcases r with r | ⟨o, r⟩
    · exact .inl (by rw [upd_ne ne]; exact r)
    · exact .inr ⟨o, by rw [upd_ne ne]; exact r⟩
  · rw [upd_ne (ne_of_none r n)]
    exact r
theorem ext_mut {a : Addr} {u : HO} (n : Mut (H a)) : Ext m m H (upd H a u) := by
  have ne : ∀ {b : Addr} {o : HO}, H b = some o → ¬ Mut (some o) → b ≠ a := fun {b o} r z q => by
    subst q
    rw [r] at n
    exact z n
  refine ⟨fun _ _ h => h, fun b xs r => ?_, fun b fs r => ?_⟩
  · rcases r with r | ⟨o, r⟩
    · exact .inl (by rw [upd_ne (ne r fun z => z)]; exact r)
    · exact .inr ⟨o, by rw [upd_ne (ne r fun z => z)]; exact r⟩
  · rw [upd_ne (ne r fun z => z)]
    exact r
theorem put_mm {st : Store} (S : SR g m H st) {p : Addr} : ∀ h b, m h = some b → put m st.length p h = some b := fun h b e => by
  rw [put_ne (Nat.ne_of_lt (S.lt e))]
  exact e
theorem upd_keep {p a : Addr} {u w : HO} (n : H p = none) (h : H a = some w) : upd H p u a = some w := by
  rw [upd_ne (ne_of_none h n)]
  exact h
theorem SR.fresh {st : Store} (S : SR g m H st) {p : Addr} {u : HO} (n : H p = none) : SR g m (upd H p u) st :=
  ⟨fun h o q => let ⟨a, e, r⟩ := S.at_ h o q; ⟨a, e, r.mono (ext_new n fun _ _ z => z) fun w z => upd_keep n z⟩, S.dom, S.inj⟩
theorem SR.alloc {st : Store} (S : SR g m H st) {p : Addr} {u : HO} {o : O} (n : H p = none) (hf : isFro (some o) = false) (r : RO g (put m st.length p) (upd H p u) p o) : SR g (put m st.length p) (upd H p u) (st ++ [o]) := by
  have old : ∀ {h : Nat}, h < st.length → (st ++ [o])[h]? = st[h]? := fun {h} l => by rw [List.getElem?_append_left l]
  refine ⟨fun h o' q => ?_, fun h l => ?_, fun h h' a e e' f f' => ?_⟩
  · by_cases l : h < st.length
    · rw [old l] at q
      obtain ⟨a, e, z⟩ := S.at_ h o' q
      exact ⟨a, put_mm S _ _ e, z.mono (ext_new n (put_mm S)) fun w z => upd_keep n z⟩
    · have q2 := (List.getElem?_eq_some_iff.mp q).1
      have e : h = st.length := by
        rw [List.length_append] at q2
        simp at q2
        omega
      subst e
      rw [List.getElem?_append_right (Nat.le_refl _)] at q
      simp at q
      subst q
      exact ⟨p, put_same, r⟩
  · rw [List.length_append] at l
    simp at l
    rw [put_ne (by omega)]
    exact S.dom h (by omega)
  · have cs : ∀ {h : Nat}, put m st.length p h = some a → isFro (st ++ [o])[h]? = false → (h = st.length ∧ a = p) ∨ (h < st.length ∧ m h = some a ∧ isFro st[h]? = false ∧ a ≠ p) := fun {h} e f => by
      by_cases l : h = st.length
      · subst l
        rw [put_same] at e
        exact .inl ⟨rfl, (Option.some.inj e).symm⟩
      · rw [put_ne l] at e
        have l2 := S.lt e
        rw [old l2] at f
        refine .inr ⟨l2, e, f, ?_⟩
        obtain ⟨b, e2, z⟩ := S.at_ h st[h] (List.getElem?_eq_getElem l2)
        rw [e] at e2
        cases e2
        have mu := z.mut (by rw [← List.getElem?_eq_getElem l2]; exact f)
        rintro rfl
        rw [n] at mu
        exact mu
    rcases cs e f with ⟨h1, h2⟩ | ⟨h1, h2, h3, h4⟩
    · rcases cs e' f' with ⟨k1, k2⟩ | ⟨k1, k2, k3, k4⟩
      · rw [h1, k1]
      · exact absurd h2 k4
    · rcases cs e' f' with ⟨k1, k2⟩ | ⟨k1, k2, k3, k4⟩
      · exact absurd k2 h4
      · exact S.inj _ _ _ h2 k2 h3 k3
theorem SR.write {st : Store} (S : SR g m H st) {h : Nat} {a : Addr} {o o' : O} {u : HO} (e : m h = some a) (q : st[h]? = some o) (hf : isFro (some o) = false) (hf' : isFro (some o') = false) (r : RO g m (upd H a u) a o') : SR g m (upd H a u) (st.set h o') := by
  have l := S.lt e
  have mu := (S.get e q).mut hf
  have x : Ext m m H (upd H a u) := ext_mut mu
  have fr : ∀ k : Nat, isFro (st.set h o')[k]? = isFro st[k]? := fun k => by
    by_cases z : k = h
    · subst z
      rw [List.getElem?_set_self l, q, hf, hf']
    · rw [List.getElem?_set_ne (Ne.symm z)]
  refine ⟨fun k o2 q2 => ?_, fun k l2 => S.dom k (by simpa using l2), fun k k' b e1 e2 f1 f2 => S.inj k k' b e1 e2 (by rw [← fr]; exact f1) (by rw [← fr]; exact f2)⟩
  by_cases z : k = h
  · subst z
    rw [List.getElem?_set_self l] at q2
    cases q2
    exact ⟨a, e, r⟩
  · rw [List.getElem?_set_ne (Ne.symm z)] at q2
    obtain ⟨b, e2, w⟩ := S.at_ k o2 q2
    refine ⟨b, e2, ?_⟩
    cases f : isFro (some o2) with
    | false =>
      have ne : b ≠ a := by
        rintro rfl
        exact z (S.inj k h b e2 e (by rw [q2]; exact f) (by rw [q]; exact hf))
      exact w.mono x fun w' z' => by rw [upd_ne ne]; exact z'
    | true =>
      cases o2 with
      | fro ds =>
        obtain ⟨vs, h1, h2⟩ := w
        refine ⟨vs, ?_, RDs.mono x _ _ h2⟩
        rcases h1 with ⟨o, h1⟩ | h1
        · refine .inl ⟨o, ?_⟩
          rw [upd_ne]
          · exact h1
          · rintro rfl
            rw [h1] at mu
            exact mu
        · exact .inr h1
      | _ => cases f
structure ER (g : G) (m : Mp) (H : Hp) (σ : L2.St) (env : Env) : Prop where
  len : env.length = σ.length
  at_ : ∀ (i : Nat) (d : D), env[i]? = some (some d) → ∃ v, σ[i]? = some (some v) ∧ RD g m H d v
theorem ER.mono (e : Ext m m' H H') {σ : L2.St} {env : Env} (h : ER g m H σ env) : ER g m' H' σ env :=
  ⟨h.len, fun i d q => let ⟨v, h1, h2⟩ := h.at_ i d q; ⟨v, h1, RD.mono e d v h2⟩⟩
theorem ER.set {σ : L2.St} {env : Env} (h : ER g m H σ env) {d : D} {v : V} (i : Nat) (r : RD g m H d v) : ER g m H (σ.set i (some v)) (env.set i (some d)) := by
  refine ⟨by simp [h.len], fun j d' q => ?_⟩
  by_cases z : j = i
  · subst z
    have l := (List.getElem?_eq_some_iff.mp q).1
    rw [List.length_set] at l
    rw [List.getElem?_set_self l] at q
    cases q
    exact ⟨v, by rw [List.getElem?_set_self (by rw [← h.len]; exact l)], r⟩
  · rw [List.getElem?_set_ne (Ne.symm z)] at q ⊢
    exact h.at_ j d' q
theorem ER.unset {σ : L2.St} {env : Env} (h : ER g m H σ env) (i : Nat) : ER g m H (σ.set i none) (env.set i none) := by
  refine ⟨by simp [h.len], fun j d' q => ?_⟩
  by_cases z : j = i
  · subst z
    have l := (List.getElem?_eq_some_iff.mp q).1
    rw [List.length_set] at l
    rw [List.getElem?_set_self l] at q
    cases q
  · rw [List.getElem?_set_ne (Ne.symm z)] at q ⊢
    exact h.at_ j d' q
theorem ER.wipe {σ : L2.St} {env : Env} (h : ER g m H σ env) : ∀ vs : List Nat, ER g m H (wipe σ vs) (wipeE env vs)
  | [] => h
  | v :: vs => (ER.wipe h vs).unset v
def RX (g : G) (m : Mp) (H : Hp) (x : Exc) (cls : Value) (dx : Option Addr) : Prop :=
  cls = .ref (g.ca x.cls) ∧ g.oke x.cls = true ∧ ((x.fs = [] ∧ dx = none) ∨ ∃ d vs, dx = some d ∧ H d = some (.xd vs) ∧ RF g m H x.fs vs)
theorem RX.mono (e : Ext m m' H H') {x : Exc} {cls : Value} {dx : Option Addr} (h : RX g m H x cls dx) : RX g m' H' x cls dx := by
  refine ⟨h.1, h.2.1, ?_⟩
  rcases h.2.2 with h | ⟨d, vs, h1, h2, h3⟩
  · exact .inl h
  · exact .inr ⟨d, vs, h1, e.xd _ _ h2, h3.mono e⟩
end
def rE (g : G) (T : Tab) (C : Calls) (hx : Option Exc) (W : WX) (e : E) : TE := fun σ H Q => ∃ (m : Mp) (env : Env) (st : Store), SR g m H st ∧ ER g m H σ env ∧
  wpE T C hx e env st (fun d s => ∀ m' H' v, Ext m m' H H' → SR g m' H' s → RD g m' H' d v → Q v H') (fun x s => ∀ m' H' cls dx, Ext m m' H H' → SR g m' H' s → RX g m' H' x cls dx → W cls dx σ H')
def rT (g : G) (T : Tab) (C : Calls) (hx : Option Exc) (W : WX) (e : E) : TT := fun σ H Q => ∃ (m : Mp) (env : Env) (st : Store), SR g m H st ∧ ER g m H σ env ∧
  wpT T C hx e env st (fun b s => ∀ m' H', Ext m m' H H' → SR g m' H' s → Q b H') (fun x s => ∀ m' H' cls dx, Ext m m' H H' → SR g m' H' s → RX g m' H' x cls dx → W cls dx σ H')
def rA (g : G) (T : Tab) (C : Calls) (hx : Option Exc) (W : WX) (as : A) : TA := fun σ H Q => ∃ (m : Mp) (env : Env) (st : Store), SR g m H st ∧ ER g m H σ env ∧
  wpA T C hx as env st (fun ds s => ∀ m' H' vs, Ext m m' H H' → SR g m' H' s → RDs g m' H' ds vs → Q vs H') (fun x s => ∀ m' H' cls dx, Ext m m' H H' → SR g m' H' s → RX g m' H' x cls dx → W cls dx σ H')
theorem PE.weak {X : Cx} {e : Expr} {t t' : TE} (h : PE X e t) (w : ∀ σ H Q, t' σ H Q → t σ H Q) : PE X e t' := ⟨fun pins s σ H Q I q => h.run pins s σ H Q I (w σ H Q q)⟩
theorem PT.weak {X : Cx} {e : Expr} {t t' : TT} (h : PT X e t) (w : ∀ σ H Q, t' σ H Q → t σ H Q) : PT X e t' := ⟨fun pins s σ H Q I q => h.run pins s σ H Q I (w σ H Q q)⟩
theorem PW.weak {X : Cx} {e : Expr} {t t' : TT} (h : PW X e t) (w : ∀ σ H Q, t' σ H Q → t σ H Q) : PW X e t' := ⟨fun wh pins s σ H Q I q => h.run wh pins s σ H Q I (w σ H Q q)⟩
theorem PA.weak {X : Cx} {e : List Expr} {t t' : TA} (h : PA X e t) (w : ∀ σ H Q, t' σ H Q → t σ H Q) : PA X e t' := ⟨fun pos pins s σ H Q I q => h.run pos pins s σ H Q I (w σ H Q q)⟩
theorem PS.weak {X : Cx} {e : Stmt} {t t' : TS} (h : PS X e t) (w : ∀ k σ H, t' k σ H → t k σ H) : PS X e t' := ⟨fun pins s σ H k I q => h.run pins s σ H k I (w k σ H q)⟩
theorem PSs.weak {X : Cx} {e : List Stmt} {t t' : TS} (h : PSs X e t) (w : ∀ k σ H, t' k σ H → t k σ H) : PSs X e t' := ⟨fun pins s σ H k I q => h.run pins s σ H k I (w k σ H q)⟩
end Y
set_option linter.all false
set_option maxHeartbeats 4000000
set_option maxRecDepth 100000
namespace Y
open PySem PySem.Spec PyProof.Rows L2
abbrev Wn (g : G) (m : Mp) (H : Hp) (Q : VK) : QE := fun d s => ∀ m' H' v, Ext m m' H H' → SR g m' H' s → RD g m' H' d v → Q v H'
section
variable {g : G} {m : Mp} {H : Hp} {st : Store} {Q : VK}
theorem Wn.here (S : SR g m H st) {d : D} {v : V} (r : RD g m H d v) (h : Wn g m H Q d st) : Q v H := h m H v (.refl _ _) S r
theorem Wn.int (S : SR g m H st) {i : Int} (h : Wn g m H Q (.int i) st) : Q (.int i) H := h m H _ (.refl _ _) S rfl
theorem Wn.str (S : SR g m H st) {x : List Nat} (h : Wn g m H Q (.str x) st) : Q (.str ⟨x.toArray⟩) H := h m H _ (.refl _ _) S rfl
theorem Wn.bl (S : SR g m H st) {b : Bool} (h : Wn g m H Q (.bl b) st) : Q (.bl b) H := h m H _ (.refl _ _) S rfl
theorem Wn.non (S : SR g m H st) (h : Wn g m H Q .non st) : Q .non H := h m H _ (.refl _ _) S rfl
theorem Wn.new (S : SR g m H st) {p : Addr} {u : HO} {o : O} (n : H p = none) (f : isFro (some o) = false) (r : RO g (put m st.length p) (upd H p u) p o) (h : Wn g m H Q (.ref st.length) (st ++ [o])) : Q (.ref p) (upd H p u) :=
  h _ _ _ (ext_new n (put_mm S)) (S.alloc n f r) ⟨p, rfl, put_same⟩
theorem Wn.tup (S : SR g m H st) {p : Addr} {ds : List D} {vs : List V} (n : H p = none) (r : RDs g m H ds vs) (h : Wn g m H Q (.tup ds) st) : Q (.ref p) (upd H p (.tup vs)) := by
  have x : Ext m m H (upd H p (.tup vs)) := ext_new n fun _ _ z => z
  exact h _ _ _ x (S.fresh n) ⟨p, vs, rfl, .inl (.inl upd_same), RDs.mono x _ _ r⟩
theorem Wn.wr (S : SR g m H st) {h : Nat} {a : Addr} {o o' : O} {u : HO} {d : D} {v : V} (e : m h = some a) (q : st[h]? = some o) (hf : isFro (some o) = false) (hf' : isFro (some o') = false) (r : RO g m (upd H a u) a o') (rd : RD g m H d v)
    (z : Wn g m H Q d (st.set h o')) : Q v (upd H a u) := by
  have x : Ext m m H (upd H a u) := ext_mut ((S.get e q).mut hf)
  exact z _ _ _ x (S.write e q hf hf' r) (RD.mono x _ _ rd)
theorem ro_lst {a : Addr} {n : Nat} {ds : List D} {vs : List V} (S : SR g m H st) (hn : H a = none) (r : RDs g m H ds vs) : RO g (put m st.length a) (upd H a (.lst vs)) a (.lst ds) := ⟨vs, upd_same, RDs.mono (ext_new hn (put_mm S)) _ _ r⟩
theorem Wn.wrl (S : SR g m H st) {h : Nat} {a : Addr} {ds ds' : List D} {us vs : List V} {d : D} {v : V} (e : m h = some a) (q : st[h]? = some (.lst ds)) (h1 : H a = some (.lst us)) (z : Wn g m H Q d (st.set h (.lst ds'))) (rd : RD g m H d v) (r : RDs g m H ds' vs) : Q v (upd H a (.lst vs)) :=
  Wn.wr (o' := .lst ds') S e q rfl rfl ⟨vs, upd_same, RDs.mono (ext_mut (by rw [h1]; trivial)) _ _ r⟩ rd z
theorem Wn.newl (S : SR g m H st) {p : Addr} {ds : List D} {vs : List V} (n : H p = none) (z : Wn g m H Q (.ref st.length) (st ++ [.lst ds])) (r : RDs g m H ds vs) : Q (.ref p) (upd H p (.lst vs)) :=
  Wn.new (o := .lst ds) S n rfl (ro_lst (n := 0) S n r) z
theorem rd_int {i : Int} {v : V} (h : RD g m H (.int i) v) : v = .int i := h
theorem rd_str {x : List Nat} {v : V} (h : RD g m H (.str x) v) : v = .str ⟨x.toArray⟩ := h
theorem rd_bl {x : Bool} {v : V} (h : RD g m H (.bl x) v) : v = .bl x := h
theorem rd_non {v : V} (h : RD g m H .non v) : v = .non := h
theorem rd_tup {ds : List D} {v : V} (h : RD g m H (.tup ds) v) : ∃ a vs, v = .ref a ∧ SqT g.K H a vs ∧ RDs g m H ds vs := h
theorem rd_ref {h : Nat} {v : V} (r : RD g m H (.ref h) v) : ∃ a, v = .ref a ∧ m h = some a := r
theorem str_app (a b : List Nat) : ((⟨a.toArray⟩ : Str) ++ (⟨b.toArray⟩ : Str)) = ⟨(a ++ b).toArray⟩ := by
  show (⟨a.toArray ++ b.toArray⟩ : Str) = _
  rw [List.append_toArray]
theorem str_len (a : List Nat) : (⟨a.toArray⟩ : Str).length = a.length := by
  show a.toArray.size = a.length
  simp
theorem str_codes (x : Str) : (⟨x.cps.toList.toArray⟩ : Str) = x := by
  obtain ⟨⟨l⟩⟩ := x
  rfl
theorem at_ix {α : Type} {xs : List α} {i : Int} {j : Nat} {c : α} (h : ixOf xs.length i = some j) (e : xs[j]? = some c) : atI xs i = some c := by
  show (ixN xs.length i).bind (fun j => xs[j]?) = some c
  have q : ixN xs.length i = some j := h
  rw [q]
  exact e
theorem SR.sqL (S : SR g m H st) {h : Nat} {a : Addr} {ds : List D} (e : m h = some a) (q : st[h]? = some (.lst ds) ∨ st[h]? = some (.fro ds)) : ∃ vs, SqL g.K H a vs ∧ RDs g m H ds vs := by
  rcases q with q | q
  · obtain ⟨vs, h1, h2⟩ := S.get e q
    exact ⟨vs, SqL.of h1, h2⟩
  · obtain ⟨vs, h1, h2⟩ := S.get e q
    refine ⟨vs, ?_, h2⟩
    rcases h1 with ⟨o, h1⟩ | h1
    · exact .inl (.inr ⟨o, h1⟩)
    · exact .inr h1
theorem SR.lst (S : SR g m H st) {h : Nat} {a : Addr} {ds : List D} (e : m h = some a) (q : st[h]? = some (.lst ds)) : ∃ vs, H a = some (.lst vs) ∧ RDs g m H ds vs := S.get e q
end
section
variable {X : Cx} {g : G}
def opR : Op → Operator
  | .add => .Add | .sub => .Sub | .mul => .Mult | .fdiv => .FloorDiv | .mod => .Mod | .pow => .Pow
def rBin (g : G) (o : Op) : R2 := fun x y H Q => ∃ m st dx dy, SR g m H st ∧ RD g m H dx x ∧ RD g m H dy y ∧ binQ st o dx dy (Wn g m H Q)
theorem op_bin (hK : X.K = g.K) (o : Op) : OpR X (binaryOp (opR o)) (rBin g o) := by
  intro pins s σ H x y v u Q I rx ry h
  obtain ⟨m, st, dx, dy, S, hx, hy, h⟩ := h
  unfold binQ at h
  split at h
  · cases rd_int hx
    cases rd_int hy
    exact op_add pins s σ H _ _ v u Q I rx ry ⟨_, _, rfl, rfl, Wn.int S h⟩
  · cases rd_str hx
    cases rd_str hy
    exact op_add_str pins s σ H _ _ v u Q I rx ry ⟨_, _, rfl, rfl, by rw [str_len, str_len]; exact h.1, by rw [str_app]; exact Wn.str S h.2⟩
  · obtain ⟨a, vs, rfl, h1, h2⟩ := rd_tup hx
    obtain ⟨b, ws, rfl, k1, k2⟩ := rd_tup hy
    rw [← hK] at h1 k1
    refine op_catA pins s σ H _ _ v u Q I rx ry ⟨a, b, vs, ws, rfl, rfl, h1, k1, by rw [h2.length, k2.length]; exact h.1, fun e => ?_, fun _ e => ?_, fun _ _ p n => ?_⟩
    · subst e
      refine Wn.here S ?_ h.2
      refine ⟨b, ws, rfl, hK ▸ k1, ?_⟩
      have := h2.app k2
      exact this
    · subst e
      refine Wn.here S ?_ h.2
      refine ⟨a, vs, rfl, hK ▸ h1, ?_⟩
      have := h2.app k2
      rw [List.append_nil] at this
      exact this
    · exact Wn.tup S n (h2.app k2) h.2
  · split at h
    · rename_i e1 e2
      obtain ⟨a, rfl, ha⟩ := rd_ref hx
      obtain ⟨b, rfl, hb⟩ := rd_ref hy
      obtain ⟨vs, h1, h2⟩ := S.lst ha e1
      obtain ⟨ws, k1, k2⟩ := S.lst hb e2
      refine op_cat pins s σ H _ _ v u Q I rx ry ⟨a, b, vs, ws, rfl, rfl, h1, k1, by rw [h2.length, k2.length]; exact h.1, fun p n => ?_⟩
      exact Wn.new S n rfl (ro_lst (n := 0) S n (h2.app k2)) h.2
    · exact h.elim
  · cases rd_int hx
    cases rd_int hy
    exact op_sub pins s σ H _ _ v u Q I rx ry ⟨_, _, rfl, rfl, Wn.int S h⟩
  · cases rd_int hx
    cases rd_int hy
    exact op_mul pins s σ H _ _ v u Q I rx ry ⟨_, _, rfl, rfl, h.1, Wn.int S h.2⟩
  · split at h
    · rename_i e1
      obtain ⟨a, rfl, ha⟩ := rd_ref hx
      cases rd_int hy
      obtain ⟨vs, h1, h2⟩ := S.lst ha e1
      refine op_rep pins s σ H _ _ v u Q I rx ry ⟨a, _, vs, rfl, rfl, h1, h.1, h.2.1, by rw [h2.length]; exact h.2.2.1, fun p n => ?_⟩
      exact Wn.new S n rfl (ro_lst (n := 0) S n (h2.rep _)) h.2.2.2
    · exact h.elim
  · cases rd_int hx
    cases rd_int hy
    exact op_fdiv pins s σ H _ _ v u Q I rx ry ⟨_, _, rfl, rfl, ⟨h.1, h.2.1⟩, Wn.int S h.2.2⟩
  · cases rd_int hx
    cases rd_int hy
    exact op_mod pins s σ H _ _ v u Q I rx ry ⟨_, _, rfl, rfl, h.1, Wn.int S h.2⟩
  · cases rd_int hx
    cases rd_int hy
    exact op_pow pins s σ H _ _ v u Q I rx ry ⟨_, _, rfl, rfl, ⟨h.1, h.2.1, h.2.2.1⟩, Wn.int S h.2.2.2⟩
  · exact h.elim
structure KonAt (g : G) (T : Tab) (w : World) (k : Nat) : Prop where
  d : ∃ es n, KDict g.K w (g.ka k) es n
  at_ : ∀ x : List Nat, ∃ r, PySem.W.nsIn g.K (g.ka k) ⟨x.toArray⟩ = some r ∧ (match getC (T.kon k) (.str x) with
    | some d => ∃ u v, r = some u ∧ RelV v u ∧ ∀ m H, RD g m H d v
    | none => r = none)
  cls : ∃ o, g.K.lookup (g.ka k) = some o ∧ o.cls = .type "dict"
structure ClsAt (K : PySem.W.Frag) (C : Addr) : Prop where
  cl : Cls K C
  ha : PySem.W.findIn K (.ref C) "__class__" = some (some (.builtin "object.__class__"))
  hn : PySem.W.specialIn K (.builtin "object.__class__") "__get__" = some (some (.builtin "getset_descriptor.__get__"))
  htk : PySem.W.takesIn K (.builtin "object.__class__") = some true
  hm : PySem.W.mroIn K C (.type "object") = some true
def tyV1 (g : G) : Ty → Value
  | .int => .type "int" | .str => .type "str" | .bool => .type "bool" | .tuple => .type "tuple" | .list => .type "list" | .dict => .type "dict"
  | .own c => .ref (g.ca c)
structure Vf (g : G) (T : Tab) (w : World) : Prop where
  kon : ∀ k, T.kon k ≠ [] → KonAt g T w k
  nmi : ∀ f f' x, g.nm f = some x → g.nm f' = some x → f = f'
mutual
theorem dp_of {m : Mp} {H : Hp} {st : Store} (hK : X.K = g.K) (S : SR g m H st) : ∀ (n : Nat) (d : D) (v : V) (p : PyData), RD g m H d v → toP n st d = some p → Dp X.K H v p ∧ PyData.canLay0 p = true ∧ p.depth ≤ n
  | _, .non, v, p, r, e => by
    cases rd_non r
    unfold toP at e
    cases e
    exact ⟨.non, rfl, Nat.zero_le _⟩
  | _, .bl b, v, p, r, e => by
    cases rd_bl r
    unfold toP at e
    cases e
    exact ⟨.bl b, rfl, Nat.zero_le _⟩
  | _, .int i, v, p, r, e => by
    cases rd_int r
    unfold toP at e
    cases e
    exact ⟨.int i, rfl, Nat.zero_le _⟩
  | _, .str x, v, p, r, e => by
    cases rd_str r
    unfold toP at e
    split at e
    · rename_i z
      cases e
      refine ⟨.str _, ?_, Nat.zero_le _⟩
      show PyData.strOk ⟨x.toArray⟩ = true
      unfold PyData.strOk
      rw [← z]
      simp
    · cases e
  | 0, .tup ds, v, p, r, e => by
    unfold toP at e
    cases e
  | 0, .ref h, v, p, r, e => by
    unfold toP at e
    cases e
  | n + 1, .tup ds, v, p, r, e => by
    obtain ⟨a, vs, rfl, h1, h2⟩ := rd_tup r
    unfold toP at e
    obtain ⟨ps, e1, rfl⟩ := Option.map_eq_some_iff.mp e
    obtain ⟨q1, q2, q3⟩ := dps_of hK S n ds vs ps h2 e1
    exact ⟨.tup (hK ▸ h1) q1, q2, Nat.succ_le_succ q3⟩
  | n + 1, .ref h, v, p, r, e => by
    obtain ⟨a, rfl, ha⟩ := rd_ref r
    unfold toP at e
    split at e
    · rename_i ds e0
      obtain ⟨ps, e1, rfl⟩ := Option.map_eq_some_iff.mp e
      obtain ⟨vs, h1, h2⟩ := S.sqL ha (.inl e0)
      obtain ⟨q1, q2, q3⟩ := dps_of hK S n ds vs ps h2 e1
      exact ⟨.lst (hK ▸ h1) q1, q2, Nat.succ_le_succ q3⟩
    · rename_i ds e0
      obtain ⟨ps, e1, rfl⟩ := Option.map_eq_some_iff.mp e
      obtain ⟨vs, h1, h2⟩ := S.sqL ha (.inr e0)
      obtain ⟨q1, q2, q3⟩ := dps_of hK S n ds vs ps h2 e1
      exact ⟨.lst (hK ▸ h1) q1, q2, Nat.succ_le_succ q3⟩
    · cases e
  | 0, .kon k, v, p, r, e => by
    unfold toP at e
    cases e
  | n + 1, .kon k, v, p, r, e => by
    unfold toP at e
    cases e
theorem dps_of {m : Mp} {H : Hp} {st : Store} (hK : X.K = g.K) (S : SR g m H st) : ∀ (n : Nat) (ds : List D) (vs : List V) (ps : List PyData), RDs g m H ds vs → ds.mapM (toP n st) = some ps → DpAll X.K H vs ps ∧ PyData.canLayAll0 ps = true ∧ PyData.depthAll ps ≤ n
  | n, [], vs, ps, r, e => by
    rw [show vs = [] from r]
    have e2 : some [] = some ps := e
    cases e2
    exact ⟨.nil, rfl, Nat.zero_le _⟩
  | n, d :: ds, vs, ps, r, e => by
    obtain ⟨v, ws, rfl, h1, h2⟩ := r
    rw [List.mapM_cons] at e
    obtain ⟨p, e1, e2⟩ := Option.bind_eq_some_iff.mp e
    obtain ⟨qs, e3, e4⟩ := Option.bind_eq_some_iff.mp e2
    have e5 : some (p :: qs) = some ps := e4
    cases e5
    obtain ⟨q1, q2, q3⟩ := dp_of hK S n d v p h1 e1
    obtain ⟨k1, k2, k3⟩ := dps_of hK S n ds ws qs h2 e3
    exact ⟨.cons q1 k1, by show (PyData.canLay0 p && PyData.canLayAll0 qs) = true; rw [q2, k2]; rfl, Nat.max_le.mpr ⟨q3, k3⟩⟩
end
theorem shaped_of {p : PyData} (h1 : PyData.canLay0 p = true) (h2 : p.depth ≤ 60) : SeqAt.shaped p = true := by
  unfold SeqAt.shaped
  rw [h1]
  exact decide_eq_true (by omega)
def cmR : Cm → CmpOp
  | .eq => .Eq | .ne => .NotEq | .lt => .Lt | .le => .LtE | .gt => .Gt | .ge => .GtE | .inn => .In | .nin => .NotIn
theorem toA_inj {a b : List Nat} : (V.str ⟨a.toArray⟩ = V.str ⟨b.toArray⟩) ↔ a = b := by
  constructor
  · intro h
    injection h with h
    injection h with h
    simpa using congrArg Array.toList h
  · rintro rfl
    rfl
theorem eq_val (hK : X.K = g.K) (hu : X.A.units + 64 < cLine) {m : Mp} {H : Hp} {st : Store} {dx dy : D} {P : Bool → Prop} (S : SR g m H st) {x y : V} (hx : RD g m H dx x) (hy : RD g m H dy y) (h : eqQ st dx dy P) :
    ∃ b, P b ∧ ((scal x y = true ∧ b = decide (x = y)) ∨ ∃ d e, Dp X.K H x d ∧ Dp X.K H y e ∧ SeqAt.shaped d = true ∧ SeqAt.shaped e = true ∧ b = PyData.eqv d e) := by
  unfold eqQ at h
  split at h
  · cases rd_int hx
    cases rd_int hy
    exact ⟨_, h, .inl ⟨rfl, by simp⟩⟩
  · cases rd_str hx
    cases rd_str hy
    exact ⟨_, h, .inl ⟨rfl, by simp only [toA_inj]⟩⟩
  · cases rd_bl hx
    cases rd_bl hy
    exact ⟨_, h, .inl ⟨rfl, by simp⟩⟩
  · cases rd_non hx
    cases rd_non hy
    exact ⟨_, h, .inl ⟨rfl, by simp⟩⟩
  · cases rd_non hx
    cases rd_int hy
    exact ⟨_, h, .inl ⟨rfl, by simp⟩⟩
  · cases rd_int hx
    cases rd_non hy
    exact ⟨_, h, .inl ⟨rfl, by simp⟩⟩
  · cases rd_non hx
    cases rd_str hy
    exact ⟨_, h, .inl ⟨rfl, by simp⟩⟩
  · cases rd_str hx
    cases rd_non hy
    exact ⟨_, h, .inl ⟨rfl, by simp⟩⟩
  · cases rd_int hx
    cases rd_str hy
    exact ⟨_, h, .inl ⟨rfl, by simp⟩⟩
  · cases rd_str hx
    cases rd_int hy
    exact ⟨_, h, .inl ⟨rfl, by simp⟩⟩
  · obtain ⟨d, e, e1, e2, h⟩ := h
    obtain ⟨p1, p2, p3⟩ := dp_of hK S 60 _ _ _ hx e1
    obtain ⟨q1, q2, q3⟩ := dp_of hK S 60 _ _ _ hy e2
    exact ⟨_, h, .inr ⟨d, e, p1, q1, shaped_of p2 p3, shaped_of q2 q3, rfl⟩⟩
theorem flat_val {m : Mp} {H : Hp} {d : D} {v : V} (h : RD g m H d v) (f : flatD d = true) : flatV v = true := by
  cases d with
  | non => cases rd_non h; rfl
  | bl b => cases rd_bl h; rfl
  | int i => cases rd_int h; rfl
  | str x => cases rd_str h; rfl
  | _ => cases f
theorem flats_val {m : Mp} {H : Hp} : ∀ {ds : List D} {vs : List V}, RDs g m H ds vs → ds.all flatD = true → vs.all flatV = true
  | [], _, h, _ => by rw [show _ = [] from h]; rfl
  | d :: ds, _, h, f => by
    obtain ⟨v, r, rfl, h2, h3⟩ := h
    simp only [List.all_cons, Bool.and_eq_true] at f ⊢
    exact ⟨flat_val h2 f.1, flats_val h3 f.2⟩
theorem str_eqv (a b : List Nat) : ((⟨a.toArray⟩ : Str) == ⟨b.toArray⟩) = decide (a = b) := by
  rw [Bool.eq_iff_iff]
  constructor
  · intro h
    have e := eq_of_beq h
    injection e with e
    exact decide_eq_true (by simpa using congrArg Array.toList e)
  · intro h
    rw [of_decide_eq_true h]
    exact beq_self_eq_true _
theorem eqV_val {m : Mp} {H : Hp} {d e : D} {v w : V} (h : RD g m H d v) (h' : RD g m H e w) (f : flatD d = true) (f' : flatD e = true) : eqV v w = eqD d e := by
  cases d <;> first | (cases f; done) | skip
  all_goals cases e <;> first | (cases f'; done) | skip
  all_goals first
    | (cases rd_int h; cases rd_int h'; show (_ == _) = decide (_ = _); rw [Bool.beq_eq_decide_eq])
    | (cases rd_str h; cases rd_str h'; simp only [eqV, eqD, str_eqv])
    | (cases rd_bl h; cases rd_int h'; simp [eqV, eqD])
    | (cases rd_int h; cases rd_bl h'; simp [eqV, eqD])
    | (cases rd_bl h; cases rd_bl h'; simp [eqV, eqD])
    | (cases rd_non h; cases rd_non h'; rfl)
    | (cases rd_non h; first | (cases rd_int h'; rfl) | (cases rd_str h'; rfl) | (cases rd_bl h'; rfl))
    | (cases rd_int h; first | (cases rd_non h'; rfl) | (cases rd_str h'; rfl))
    | (cases rd_str h; first | (cases rd_non h'; rfl) | (cases rd_int h'; rfl) | (cases rd_bl h'; rfl))
    | (cases rd_bl h; first | (cases rd_non h'; rfl) | (cases rd_str h'; rfl))
theorem inV_val {m : Mp} {H : Hp} {d : D} {v : V} (h : RD g m H d v) (f : flatD d = true) : ∀ {ds : List D} {vs : List V}, RDs g m H ds vs → ds.all flatD = true → inV v vs = inD d ds
  | [], _, q, _ => by rw [show _ = [] from q]; rfl
  | e :: ds, _, q, fs => by
    obtain ⟨w, r, rfl, h2, h3⟩ := q
    simp only [List.all_cons, Bool.and_eq_true] at fs
    show (eqV w v || inV v r) = (eqD e d || inD d ds)
    rw [eqV_val h2 h fs.1 f, inV_val h f h3 fs.2]
theorem key_flat {m : Mp} {H : Hp} {k : Key} {v : V} (h : RD g m H (kD k) v) : v = kV k := by
  cases k with
  | inl i => exact rd_int h
  | inr x =>
    rw [rd_str h]
    show V.str ⟨x.cps.toList.toArray⟩ = V.str x
    rw [str_codes]
theorem keys_flat {m : Mp} {H : Hp} : ∀ {ks : List Key} {vs : List V}, RDs g m H (ks.map kD) vs → vs = ks.map kV
  | [], _, h => h
  | k :: ks, _, h => by
    obtain ⟨v, r, rfl, h2, h3⟩ := h
    rw [key_flat h2, keys_flat h3]
    rfl
theorem key_cases {d : D} (h : keyD d = true) : (∃ k : Key, d = kD k) ∨ ∃ ks : List Key, d = .tup (ks.map kD) := by
  cases d with
  | int i => exact .inl ⟨.inl i, rfl⟩
  | str x => exact .inl ⟨.inr ⟨x.toArray⟩, by show D.str x = D.str x.toArray.toList; rw [List.toList_toArray]⟩
  | tup ds =>
    refine .inr ?_
    have h1 : (ds.all fun d => match d with
      | .int _ => true | .str _ => true
      | _ => false) = true := h
    clear h
    induction ds with
    | nil => exact ⟨[], rfl⟩
    | cons d ds ih =>
      simp only [List.all_cons, Bool.and_eq_true] at h1
      obtain ⟨ks, e⟩ := ih h1.2
      injection e with e
      have h0 := h1.1
      cases d with
      | int i => exact ⟨.inl i :: ks, by rw [e]; rfl⟩
      | str x => exact ⟨.inr ⟨x.toArray⟩ :: ks, by rw [e]; show D.tup (D.str x :: _) = D.tup (D.str x.toArray.toList :: _); rw [List.toList_toArray]⟩
      | _ => cases h0
  | _ => cases h
theorem map_kD_inj : ∀ {a b : List Key}, a.map kD = b.map kD → a = b
  | [], [], _ => rfl
  | [], _ :: _, h => by cases h
  | _ :: _, [], h => by cases h
  | x :: xs, y :: ys, h => by
    injection h with h1 h2
    rw [kD_inj h1, map_kD_inj h2]
theorem rk_get {m : Mp} {H : Hp} {k : Key} : ∀ {kvs : List (D × D)} {ps : List (Key × V)}, RK g m H kvs ps → (match getK kvs (kD k) with
    | some d => ∃ v, valV ps k = some v ∧ RD g m H d v
    | none => valV ps k = none)
  | _, _, .nil => rfl
  | _, _, @Paired.cons _ _ _ p q l1 l2 h t => by
    have ih := rk_get (k := k) t
    by_cases e : q.1 = k
    · have e1 : p.1 = kD k := by rw [h.1, e]
      have g1 : getK (p :: l1) (kD k) = some p.2 := by simp [getK, List.find?_cons, e1]
      rw [g1]
      exact ⟨q.2, valV_pos e, h.2⟩
    · have e1 : ¬ p.1 = kD k := fun z => e (kD_inj (h.1.symm.trans z))
      have g1 : getK (p :: l1) (kD k) = getK l1 (kD k) := by simp [getK, List.find?_cons, e1]
      rw [g1, valV_neg e]
      exact ih
theorem rt_get {m : Mp} {H : Hp} {k : List Key} : ∀ {kvs : List (D × D)} {ps : List (List Key × V)}, RT g m H kvs ps → (match getK kvs (.tup (k.map kD)) with
    | some d => ∃ v, valV ps k = some v ∧ RD g m H d v
    | none => valV ps k = none)
  | _, _, .nil => rfl
  | _, _, @Paired.cons _ _ _ p q l1 l2 h t => by
    have ih := rt_get (k := k) t
    by_cases e : q.1 = k
    · have e1 : p.1 = .tup (k.map kD) := by rw [h.1, e]
      have g1 : getK (p :: l1) (.tup (k.map kD)) = some p.2 := by simp [getK, List.find?_cons, e1]
      rw [g1]
      exact ⟨q.2, valV_pos e, h.2⟩
    · have e1 : ¬ p.1 = .tup (k.map kD) := fun z => by
        have z2 := h.1.symm.trans z
        injection z2 with z2
        exact e (map_kD_inj z2)
      have g1 : getK (p :: l1) (.tup (k.map kD)) = getK l1 (.tup (k.map kD)) := by simp [getK, List.find?_cons, e1]
      rw [g1, valV_neg e]
      exact ih
theorem rt_flat {m : Mp} {H : Hp} {k : Key} : ∀ {kvs : List (D × D)} {ps : List (List Key × V)}, RT g m H kvs ps → getK kvs (kD k) = none
  | _, _, .nil => rfl
  | _, _, @Paired.cons _ _ _ p q l1 l2 h t => by
    have e1 : ¬ p.1 = kD k := fun z => by
      rw [h.1] at z
      cases k <;> cases z
    have g1 : getK (p :: l1) (kD k) = getK l1 (kD k) := by simp [getK, List.find?_cons, e1]
    rw [g1]
    exact rt_flat t
theorem rk_tup {m : Mp} {H : Hp} {k : List D} : ∀ {kvs : List (D × D)} {ps : List (Key × V)}, RK g m H kvs ps → getK kvs (.tup k) = none
  | _, _, .nil => rfl
  | _, _, @Paired.cons _ _ _ p q l1 l2 h t => by
    have e1 : ¬ p.1 = .tup k := fun z => by
      rw [h.1] at z
      have := q.1
      cases hq : q.1 <;> rw [hq] at z <;> cases z
    have g1 : getK (p :: l1) (.tup k) = getK l1 (.tup k) := by simp [getK, List.find?_cons, e1]
    rw [g1]
    exact rk_tup t
def rCmp (g : G) (T : Tab) (o : Cm) : R2 := fun x y H Q => ∃ m st dx dy, SR g m H st ∧ RD g m H dx x ∧ RD g m H dy y ∧ cmpQ T st o dx dy fun b => Q (.bl b) H
theorem in_val {T : Tab} (F : Vf g T X.w) (hK : X.K = g.K) {m : Mp} {H : Hp} {st : Store} {dx dy : D} {P : Bool → Prop} (S : SR g m H st) {x y : V} (hx : RD g m H dx x) (hy : RD g m H dy y) (h : inQ T st dx dy P) :
    ∃ b, P b ∧ ((∃ i j : Str, x = .str i ∧ y = .str j ∧ b = !(Builtin.Str.occurrences j i 0 j.length 1).isEmpty) ∨ (∃ p xs, y = .ref p ∧ (SqL X.K H p xs ∨ SqT X.K H p xs) ∧ flatV x = true ∧ xs.all flatV = true ∧ b = inV x xs) ∨
      ∃ d es n z r, KDict X.K X.w d es n ∧ x = .str z ∧ y = .ref d ∧ PySem.W.nsIn X.K d z = some r ∧ b = r.isSome) := by
  unfold inQ at h
  split at h
  · cases rd_str hx
    cases rd_str hy
    refine ⟨_, h, .inl ⟨_, _, rfl, rfl, ?_⟩⟩
    rw [str_len]
  · obtain ⟨h0, a, rfl, h⟩ := h
    rename_i k
    have y1 : y = .ref (g.ka k) := hy
    subst y1
    cases rd_str hx
    have KA := F.kon k h0
    obtain ⟨es, n, D1⟩ := KA.d
    obtain ⟨r, e1, e2⟩ := KA.at_ a
    refine ⟨_, h, .inr (.inr ⟨_, es, n, _, r, hK ▸ D1, rfl, rfl, by rw [hK]; exact e1, ?_⟩)⟩
    cases q : getC (T.kon k) (.str a) with
    | none =>
      rw [q] at e2
      rw [show r = none from e2]
      rfl
    | some d =>
      rw [q] at e2
      obtain ⟨u, v, rfl, _⟩ := e2
      rfl
  · obtain ⟨f1, f2, h⟩ := h
    obtain ⟨a, vs, rfl, h1, h2⟩ := rd_tup hy
    exact ⟨_, h, .inr (.inl ⟨a, vs, rfl, .inr (hK ▸ h1), flat_val hx f1, flats_val h2 f2, (inV_val hx f1 h2 f2).symm⟩)⟩
  · split at h
    · rename_i e0
      obtain ⟨f1, f2, h⟩ := h
      obtain ⟨a, rfl, ha⟩ := rd_ref hy
      obtain ⟨vs, h1, h2⟩ := S.sqL ha (.inl e0)
      exact ⟨_, h, .inr (.inl ⟨a, vs, rfl, .inl (hK ▸ h1), flat_val hx f1, flats_val h2 f2, (inV_val hx f1 h2 f2).symm⟩)⟩
    · exact h.elim
  · exact h.elim
theorem op_cm {T : Tab} (F : Vf g T X.w) (hK : X.K = g.K) (hu : X.A.units + 64 < cLine) (o : Cm) : OpR X (compareOp (cmR o)) (rCmp g T o) := by
  intro pins s σ H x y v u Q I rx ry h
  obtain ⟨m, st, dx, dy, S, hx, hy, h⟩ := h
  cases o
  · obtain ⟨b, q, e⟩ := eq_val hK hu S hx hy h
    rcases e with ⟨e1, e2⟩ | ⟨d, e, h1, h2, h3, h4, e5⟩
    · exact op_eq pins s σ H x y v u Q I rx ry ⟨e1, by rw [← e2]; exact q⟩
    · exact op_eqD hu pins s σ H x y v u Q I rx ry ⟨d, e, h1, h2, h3, h4, by rw [← e5]; exact q⟩
  · obtain ⟨b, q, e⟩ := eq_val hK hu S hx hy h
    rcases e with ⟨e1, e2⟩ | ⟨d, e, h1, h2, h3, h4, e5⟩
    · exact op_ne pins s σ H x y v u Q I rx ry ⟨e1, by rw [← e2]; exact q⟩
    · exact op_neD hu pins s σ H x y v u Q I rx ry ⟨d, e, h1, h2, h3, h4, by rw [← e5]; exact q⟩
  · unfold cmpQ at h
    dsimp only at h
    split at h
    · cases rd_int hx
      cases rd_int hy
      exact op_lt pins s σ H _ _ v u Q I rx ry ⟨_, _, rfl, rfl, h⟩
    · exact h.elim
  · unfold cmpQ at h
    dsimp only at h
    split at h
    · cases rd_int hx
      cases rd_int hy
      exact op_le pins s σ H _ _ v u Q I rx ry ⟨_, _, rfl, rfl, h⟩
    · exact h.elim
  · unfold cmpQ at h
    dsimp only at h
    split at h
    · cases rd_int hx
      cases rd_int hy
      exact op_gt pins s σ H _ _ v u Q I rx ry ⟨_, _, rfl, rfl, h⟩
    · exact h.elim
  · unfold cmpQ at h
    dsimp only at h
    split at h
    · cases rd_int hx
      cases rd_int hy
      exact op_ge pins s σ H _ _ v u Q I rx ry ⟨_, _, rfl, rfl, h⟩
    · exact h.elim
  · obtain ⟨b, q, e⟩ := in_val F hK S hx hy h
    rcases e with ⟨i, j, rfl, rfl, e⟩ | ⟨p, xs, rfl, h1, h2, h3, e⟩ | ⟨d, es, n, z, r, h1, rfl, rfl, h2, e⟩
    · exact op_in_str pins s σ H _ _ v u Q I rx ry ⟨i, j, rfl, rfl, by rw [← e]; exact q⟩
    · exact op_in_seq pins s σ H _ _ v u Q I rx ry ⟨p, xs, rfl, h1, h2, h3, by rw [← e]; exact q⟩
    · exact op_in_kd h1 pins s σ H _ _ v u Q I rx ry ⟨z, r, rfl, rfl, h2, by rw [← e]; exact q⟩
  · obtain ⟨b, q, e⟩ := in_val F hK S hx hy h
    rcases e with ⟨i, j, rfl, rfl, e⟩ | ⟨p, xs, rfl, h1, h2, h3, e⟩ | ⟨d, es, n, z, r, h1, rfl, rfl, h2, e⟩
    · exact op_notin_str pins s σ H _ _ v u Q I rx ry ⟨i, j, rfl, rfl, by rw [← e]; exact q⟩
    · exact op_notIn_seq pins s σ H _ _ v u Q I rx ry ⟨p, xs, rfl, h1, h2, h3, by rw [← e]; exact q⟩
    · exact op_notIn_kd h1 pins s σ H _ _ v u Q I rx ry ⟨z, r, rfl, rfl, h2, by rw [← e]; exact q⟩
theorem tru_val (hK : X.K = g.K) {m : Mp} {H : Hp} {st : Store} {d : D} {v : V} {P : Bool → Prop} (S : SR g m H st) (r : RD g m H d v) (h : truQ st d P) : ∃ k, TruV X.K v H k ∧ P k := by
  unfold truQ at h
  split at h
  · cases rd_non r
    exact ⟨false, rfl, h⟩
  · cases rd_bl r
    exact ⟨_, rfl, h⟩
  · cases rd_int r
    exact ⟨_, rfl, h⟩
  · cases rd_str r
    rename_i x
    refine ⟨_, ⟨by rw [str_len]; exact h.1, ?_⟩, h.2⟩
    rw [str_len]
    cases x with
    | nil => rfl
    | cons c x =>
      show true = (((c :: x).length : Int) != 0)
      have : ((c :: x).length : Int) ≠ 0 := by
        rw [List.length_cons]
        omega
      exact (bne_iff_ne.mpr this).symm
  · obtain ⟨a, vs, rfl, h1, h2⟩ := rd_tup r
    refine ⟨_, .inr (.inl ⟨vs, hK ▸ h1, rfl⟩), ?_⟩
    have e := h2.length
    rename_i ds
    cases ds <;> cases vs <;> first | exact h | (simp at e)
  · split at h
    · rename_i ds e0
      obtain ⟨a, rfl, ha⟩ := rd_ref r
      obtain ⟨vs, h1, h2⟩ := S.sqL ha (.inl e0)
      refine ⟨_, .inl ⟨vs, hK ▸ h1, rfl⟩, ?_⟩
      have e := h2.length
      cases ds <;> cases vs <;> first | exact h | (simp at e)
    · exact h.elim
  · exact h.elim
def prV : Pr → Value
  | .len => .builtin "len" | .abs => .builtin "abs" | .max2 => .builtin "max" | .min2 => .builtin "min" | .any => .builtin "any" | .all => .builtin "all" | .sum => .builtin "sum" | .max => .builtin "max" | .min => .builtin "min"
  | .int => .type "int" | .str => .type "str" | .tuple => .type "tuple" | .list => .type "list" | .bool => .type "bool"
def rPr (g : G) (p : Pr) : List V → Hp → VK → Prop := fun xs H Q => ∃ m st ds, SR g m H st ∧ RDs g m H ds xs ∧ prQ p ds st (Wn g m H Q)
theorem bls_of {m : Mp} {H : Hp} : ∀ {bs : List Bool} {vs : List V}, RDs g m H (bs.map D.bl) vs → vs = bs.map V.bl
  | [], _, h => h
  | b :: bs, _, h => by
    obtain ⟨v, r, rfl, h2, h3⟩ := h
    cases rd_bl h2
    rw [bls_of h3]
    rfl
theorem call_pr (hK : X.K = g.K) (hc : X.calm = true) (p : Pr) : CallR X (prV p) (rPr g p) := by
  intro pins s σ H xs us Q I r h
  obtain ⟨m, st, ds, S, hd, h⟩ := h
  unfold prQ at h
  split at h
  · obtain ⟨v, rfl, h1⟩ := hd.un1
    cases rd_str h1
    refine call_len pins s σ H _ us Q I r ⟨_, _, rfl, ⟨by rw [str_len]; exact h.1, rfl⟩, ?_⟩
    rw [str_len]
    exact Wn.int S h.2
  · obtain ⟨v, rfl, h1⟩ := hd.un1
    obtain ⟨a, vs, rfl, h2, h3⟩ := rd_tup h1
    refine call_len pins s σ H _ us Q I r ⟨_, _, rfl, .inr ⟨vs, hK ▸ h2, rfl⟩, ?_⟩
    rw [h3.length]
    exact Wn.int S h
  · obtain ⟨v, rfl, h1⟩ := hd.un1
    obtain ⟨a, rfl, ha⟩ := rd_ref h1
    split at h
    · rename_i e0
      obtain ⟨vs, h2, h3⟩ := S.sqL ha (.inl e0)
      refine call_len pins s σ H _ us Q I r ⟨_, _, rfl, .inl ⟨vs, hK ▸ h2, rfl⟩, ?_⟩
      rw [h3.length]
      exact Wn.int S h
    · rename_i e0
      obtain ⟨vs, h2, h3⟩ := S.sqL ha (.inr e0)
      refine call_len pins s σ H _ us Q I r ⟨_, _, rfl, .inl ⟨vs, hK ▸ h2, rfl⟩, ?_⟩
      rw [h3.length]
      exact Wn.int S h
    · exact h.elim
  · obtain ⟨v, rfl, h1⟩ := hd.un1
    cases rd_int h1
    exact call_int1 pins s σ H _ us Q I r (.inl ⟨_, rfl, Wn.int S h⟩)
  · obtain ⟨v, rfl, h1⟩ := hd.un1
    cases rd_bl h1
    exact call_int1 pins s σ H _ us Q I r (.inr ⟨_, rfl, Wn.int S h⟩)
  · obtain ⟨v, rfl, h1⟩ := hd.un1
    cases rd_str h1
    obtain ⟨n, e1, e2, h⟩ := h
    exact call_int_str pins s σ H _ us Q I r ⟨_, n, rfl, e1, by rw [str_len]; exact e2, Wn.int S h⟩
  · obtain ⟨v, rfl, h1⟩ := hd.un1
    cases rd_int h1
    refine call_str_int pins s σ H _ us Q I r ⟨_, rfl, h.1, ?_⟩
    have q := Wn.str S h.2
    unfold decI at q
    rw [str_codes] at q
    exact q
  · obtain ⟨v, rfl, h1⟩ := hd.un1
    cases rd_int h1
    exact call_abs pins s σ H _ us Q I r ⟨_, rfl, Wn.int S h⟩
  · obtain ⟨v, w, rfl, h1, h2⟩ := hd.two
    cases rd_int h1
    cases rd_int h2
    exact call_max2 hc pins s σ H _ us Q I r ⟨_, _, rfl, Wn.int S h⟩
  · obtain ⟨v, w, rfl, h1, h2⟩ := hd.two
    cases rd_int h1
    cases rd_int h2
    exact call_min2 hc pins s σ H _ us Q I r ⟨_, _, rfl, Wn.int S h⟩
  · obtain ⟨v, rfl, h1⟩ := hd.un1
    have h0 := h1
    obtain ⟨a, vs, rfl, h2, h3⟩ := rd_tup h1
    exact call_tuple_of pins s σ H _ us Q I r ⟨a, vs, rfl, .inr ⟨hK ▸ h2, Wn.here S h0 h⟩⟩
  · obtain ⟨v, rfl, h1⟩ := hd.un1
    obtain ⟨a, rfl, ha⟩ := rd_ref h1
    split at h
    · rename_i e0
      obtain ⟨vs, h2, h3⟩ := S.sqL ha (.inl e0)
      exact call_tuple_of pins s σ H _ us Q I r ⟨a, vs, rfl, .inl ⟨hK ▸ h2, fun p n => Wn.tup S n h3 h⟩⟩
    · rename_i e0
      obtain ⟨vs, h2, h3⟩ := S.sqL ha (.inr e0)
      exact call_tuple_of pins s σ H _ us Q I r ⟨a, vs, rfl, .inl ⟨hK ▸ h2, fun p n => Wn.tup S n h3 h⟩⟩
    · exact h.elim
  · obtain ⟨v, rfl, h1⟩ := hd.un1
    obtain ⟨a, vs, rfl, h2, h3⟩ := rd_tup h1
    exact call_list_of pins s σ H _ us Q I r ⟨a, vs, rfl, .inr (hK ▸ h2), fun p n => Wn.new S n rfl (ro_lst (n := 0) S n h3) h⟩
  · obtain ⟨v, rfl, h1⟩ := hd.un1
    obtain ⟨a, rfl, ha⟩ := rd_ref h1
    split at h
    · rename_i e0
      obtain ⟨vs, h2, h3⟩ := S.sqL ha (.inl e0)
      exact call_list_of pins s σ H _ us Q I r ⟨a, vs, rfl, .inl (hK ▸ h2), fun p n => Wn.new S n rfl (ro_lst (n := 0) S n h3) h⟩
    · rename_i e0
      obtain ⟨vs, h2, h3⟩ := S.sqL ha (.inr e0)
      exact call_list_of pins s σ H _ us Q I r ⟨a, vs, rfl, .inl (hK ▸ h2), fun p n => Wn.new S n rfl (ro_lst (n := 0) S n h3) h⟩
    · exact h.elim
  · obtain ⟨v, rfl, h1⟩ := hd.un1
    obtain ⟨a, rfl, ha⟩ := rd_ref h1
    split at h
    · rename_i e0
      obtain ⟨bs, rfl, h⟩ := h
      obtain ⟨vs, h2, h3⟩ := S.sqL ha (.inl e0)
      have e := bls_of h3
      subst e
      exact cr_any hc pins s σ H _ us Q I r ⟨a, bs, rfl, hK ▸ h2, Wn.bl S h⟩
    · exact h.elim
  · obtain ⟨v, rfl, h1⟩ := hd.un1
    obtain ⟨a, rfl, ha⟩ := rd_ref h1
    split at h
    · rename_i e0
      obtain ⟨bs, rfl, h⟩ := h
      obtain ⟨vs, h2, h3⟩ := S.sqL ha (.inl e0)
      have e := bls_of h3
      subst e
      exact cr_all hc pins s σ H _ us Q I r ⟨a, bs, rfl, hK ▸ h2, Wn.bl S h⟩
    · exact h.elim
  · obtain ⟨v, rfl, h1⟩ := hd.un1
    cases rd_int h1
    exact call_bool1 pins s σ H _ us Q I r (.inl ⟨_, rfl, Wn.bl S h⟩)
  · obtain ⟨v, rfl, h1⟩ := hd.un1
    cases rd_bl h1
    exact call_bool1 pins s σ H _ us Q I r (.inr ⟨_, rfl, Wn.bl S h⟩)
  · exact h.elim
def meI : Me → String × String × Str
  | .append => ("list", "list.append", "append") | .pop => ("list", "list.pop", "pop") | .popAt => ("list", "list.pop", "pop") | .insert => ("list", "list.insert", "insert")
  | .extend => ("list", "list.extend", "extend") | .reverse => ("list", "list.reverse", "reverse") | .clear => ("list", "list.clear", "clear") | .index => ("list", "list.index", "index")
  | .get1 => ("dict", "dict.get", "get") | .get2 => ("dict", "dict.get", "get") | .setdefault => ("dict", "dict.setdefault", "setdefault") | .split => ("str", "str.split", "split") | .join => ("str", "str.join", "join")
def rMe (g : G) (m' : Me) : V → List V → Hp → VK → Prop := fun x xs H Q => ∃ m st d ds, SR g m H st ∧ RD g m H d x ∧ RDs g m H ds xs ∧ meQ m' d ds st (Wn g m H Q)
theorem strs_of {m : Mp} {H : Hp} : ∀ {ys : List (List Nat)} {vs : List V}, RDs g m H (ys.map D.str) vs → vs = (ys.map fun y => (⟨y.toArray⟩ : Str)).map V.str
  | [], _, h => h
  | b :: bs, _, h => by
    obtain ⟨v, r, rfl, h2, h3⟩ := h
    cases rd_str h2
    rw [strs_of h3]
    rfl
theorem rds_strs {m : Mp} {H : Hp} : ∀ ys : List Str, RDs g m H (ys.map fun z => D.str z.cps.toList) (ys.map V.str)
  | [] => rfl
  | y :: ys => ⟨_, _, rfl, by show V.str y = V.str ⟨y.cps.toList.toArray⟩; rw [str_codes], rds_strs ys⟩
theorem len_map (ys : List (List Nat)) : ((ys.map fun y => (⟨y.toArray⟩ : Str)).map (·.length)) = ys.map List.length := by
  rw [List.map_map]
  exact List.map_congr_left fun y _ => str_len y
theorem mt_me (hK : X.K = g.K) (mm : Me) : MtR X (meI mm).2.1 (rMe g mm) := by
  intro pins s σ H x xs v us Q I rx rs h
  obtain ⟨m, st, d, ds, S, hx, hd, h⟩ := h
  unfold meQ at h
  split at h
  · obtain ⟨a, rfl, ha⟩ := rd_ref hx
    obtain ⟨w, rfl, h1⟩ := hd.un1
    split at h
    · rename_i e0
      obtain ⟨vs, h2, h3⟩ := S.lst ha e0
      refine mt_append pins s σ H _ _ v us Q I rx rs ⟨a, vs, w, rfl, rfl, h2, by rw [h3.length]; exact h.1, ?_⟩
      exact Wn.wrl S ha e0 h2 h.2 rfl (h3.app (.one h1))
    · exact h.elim
  · obtain ⟨a, rfl, ha⟩ := rd_ref hx
    cases (show xs = [] from hd)
    split at h
    · rename_i e0
      obtain ⟨y, e1, h⟩ := h
      obtain ⟨vs, h2, h3⟩ := S.lst ha e0
      obtain ⟨w, e2, rw2⟩ := h3.get e1
      refine mt_pop pins s σ H _ _ v us Q I rx rs ⟨a, vs, w, rfl, rfl, h2, by rw [h3.length]; exact e2, ?_⟩
      exact Wn.wrl S ha e0 h2 h rw2 h3.dropLast
    · exact h.elim
  · obtain ⟨a, rfl, ha⟩ := rd_ref hx
    cases (show xs = [] from hd)
    split at h
    · rename_i e0
      obtain ⟨vs, h2, h3⟩ := S.lst ha e0
      refine mt_reverse pins s σ H _ _ v us Q I rx rs ⟨a, vs, rfl, rfl, h2, ?_⟩
      exact Wn.wrl S ha e0 h2 h rfl h3.rev
    · exact h.elim
  · obtain ⟨a, rfl, ha⟩ := rd_ref hx
    cases (show xs = [] from hd)
    split at h
    · rename_i e0
      obtain ⟨vs, h2, h3⟩ := S.lst ha e0
      refine mt_clear pins s σ H _ _ v us Q I rx rs ⟨a, vs, rfl, rfl, h2, ?_⟩
      exact Wn.wrl S ha e0 h2 h rfl RDs.nil
    · exact h.elim
  · cases rd_str hx
    obtain ⟨w, rfl, h1⟩ := hd.un1
    cases rd_str h1
    obtain ⟨e1, e2, h⟩ := h
    refine mt_split pins s σ H _ _ v us Q I rx rs ⟨_, _, rfl, rfl, by rw [str_len]; exact beq_eq_false_iff_ne.mpr e1, by rw [str_len]; exact e2, fun p n => ?_⟩
    exact Wn.newl S n h (rds_strs _)
  · cases rd_str hx
    obtain ⟨w, rfl, h1⟩ := hd.un1
    obtain ⟨ys, e1, e2, h⟩ := h
    have q : ∃ p, w = .ref p ∧ (SqL X.K H p ((ys.map fun y => (⟨y.toArray⟩ : Str)).map V.str) ∨ SqT X.K H p ((ys.map fun y => (⟨y.toArray⟩ : Str)).map V.str)) := by
      unfold seqOf at e1
      split at e1
      · obtain ⟨a, vs, rfl, h2, h3⟩ := rd_tup h1
        cases e1
        have e := strs_of h3
        subst e
        exact ⟨a, rfl, .inr (hK ▸ h2)⟩
      · obtain ⟨a, rfl, ha⟩ := rd_ref h1
        split at e1
        · rename_i e0
          cases e1
          obtain ⟨vs, h2, h3⟩ := S.sqL ha (.inl e0)
          have e := strs_of h3
          subst e
          exact ⟨a, rfl, .inl (hK ▸ h2)⟩
        · rename_i e0
          cases e1
          obtain ⟨vs, h2, h3⟩ := S.sqL ha (.inr e0)
          have e := strs_of h3
          subst e
          exact ⟨a, rfl, .inl (hK ▸ h2)⟩
        · cases e1
      · cases e1
    obtain ⟨p, rfl, hp⟩ := q
    refine mt_join pins s σ H _ _ v us Q I rx rs ⟨_, p, _, rfl, rfl, hp, ?_, ?_⟩
    · rw [len_map, List.length_map, str_len]
      exact e2
    · have q := Wn.str S h
      rw [str_codes] at q
      exact q
  · exact h.elim
def rIdx (g : G) (T : Tab) : R2 := fun x y H Q => ∃ m st dx dy, SR g m H st ∧ RD g m H dx x ∧ RD g m H dy y ∧ idxQ T st dx dy (Wn g m H Q)
theorem ix_kd {d : Addr} {es : Array DictEntry} {n : Nat} (D1 : KDict X.K X.w d es n) : IxR X (fun x y H Q => ∃ (z : Str) (u0 : Value) (v0 : V), x = .ref d ∧ y = .str z ∧ PySem.W.nsIn X.K d z = some (some u0) ∧ RelV v0 u0 ∧ Q v0 H) := by
  intro value slice pins s σ H x y v u Q I rx ry h hs
  have hx : x = .ref d := let ⟨_, _, _, a, _⟩ := h; a
  subst hx
  cases (show v = Value.ref d from rx)
  unfold subscriptTail
  refine wpAny_bind ?_
  rw [getitemInPython_of_ne (kd_type D1 I).not_modules]
  refine wpAny_bind (wpAny_specialOf (kd_type D1 I) PySem.F.slot_dict_getitem.lookup ?_)
  have z : wpAny (model X.prog X.w) X.A (subscripted slice false (.ref d) u) (fun r s' => wpAny (model X.prog X.w) X.A (letTemporaryGo value (.ref d) r >>= fun _ => pure r) (EP X pins σ Q) X.xe s') X.xe s := by
    rw [hs]
    refine wpAny_operating (wpAny_mono (op_item_kd D1 pins s σ H (.ref d) y (.ref d) u Q I rfl ry h) (fun r s' hr => ?_) fun _ _ q => q)
    exact wpAny_bind (wpAny_letTemporaryGo (wpAny_pure hr))
  first
    | exact wpAny_pure (wpAny_bind z)
    | exact wpAny_bind (wpAny_pure (wpAny_bind z))
    | exact wpAny_bind z
theorem ix_any {T : Tab} (F : Vf g T X.w) (hK : X.K = g.K) : IxR X (rIdx g T) := by
  intro value slice pins s σ H x y v u Q I rx ry h hs
  obtain ⟨m, st, dx, dy, S, hx, hy, h⟩ := h
  unfold idxQ at h
  split at h
  · cases rd_str hx
    cases rd_int hy
    obtain ⟨h0, h⟩ := h
    split at h
    · rename_i z i _ j e
      obtain ⟨c, e2, h⟩ := h
      refine ix_str value slice pins s σ H _ _ v u Q I rx ry ⟨_, _, c, rfl, rfl, by rw [str_len]; exact h0, ?_, Wn.str S h⟩ hs
      show atI z.toArray.toList i = some c
      rw [List.toList_toArray]
      exact at_ix e e2
    · exact h.elim
  · obtain ⟨a, vs, rfl, h1, h2⟩ := rd_tup hx
    cases rd_int hy
    split at h
    · rename_i j e
      obtain ⟨c, e2, h⟩ := h
      obtain ⟨w, e3, rw3⟩ := h2.get e2
      exact ix_tup value slice pins s σ H _ _ v u Q I rx ry ⟨a, vs, _, w, rfl, rfl, hK ▸ h1, at_ix (by rw [h2.length]; exact e) e3, Wn.here S rw3 h⟩ hs
    · exact h.elim
  · obtain ⟨d, e, h⟩ := h
    rename_i k
    have x1 : x = .ref (g.ka k) := hx
    subst x1
    have h0 : T.kon k ≠ [] := fun z => by
      rw [z] at e
      unfold getC at e
      split at e <;> cases e
    have KA := F.kon k h0
    obtain ⟨es, n, D1⟩ := KA.d
    obtain ⟨z, rfl⟩ : ∃ z, dy = .str z := by
      unfold getC at e
      split at e
      · exact ⟨_, rfl⟩
      · cases e
    cases rd_str hy
    obtain ⟨r, e1, e2⟩ := KA.at_ z
    rw [e] at e2
    obtain ⟨u0, v0, rfl, r1, r2⟩ := e2
    exact ix_kd (hK ▸ D1) value slice pins s σ H _ _ v u Q I rx ry ⟨_, u0, v0, rfl, rfl, by rw [hK]; exact e1, r1, Wn.here S (r2 m H) h⟩ hs
  · obtain ⟨a, rfl, ha⟩ := rd_ref hx
    split at h
    · rename_i e0
      obtain ⟨i, rfl, h⟩ := h
      cases rd_int hy
      obtain ⟨vs, h1, h2⟩ := S.sqL ha (.inl e0)
      split at h
      · rename_i j e
        obtain ⟨c, e2, h⟩ := h
        obtain ⟨w, e3, rw3⟩ := h2.get e2
        exact ix_list value slice pins s σ H _ _ v u Q I rx ry ⟨a, vs, _, w, rfl, rfl, hK ▸ h1, at_ix (by rw [h2.length]; exact e) e3, Wn.here S rw3 h⟩ hs
      · exact h.elim
    · rename_i e0
      obtain ⟨i, rfl, h⟩ := h
      cases rd_int hy
      obtain ⟨vs, h1, h2⟩ := S.sqL ha (.inr e0)
      split at h
      · rename_i j e
        obtain ⟨c, e2, h⟩ := h
        obtain ⟨w, e3, rw3⟩ := h2.get e2
        exact ix_list value slice pins s σ H _ _ v u Q I rx ry ⟨a, vs, _, w, rfl, rfl, hK ▸ h1, at_ix (by rw [h2.length]; exact e) e3, Wn.here S rw3 h⟩ hs
      · exact h.elim
    · exact h.elim
  · exact h.elim
def rSli (g : G) : V → Option Int → Option Int → Hp → VK → Prop := fun x lo hi H Q => ∃ m st dx, SR g m H st ∧ RD g m H dx x ∧ sliQ st dx lo hi (Wn g m H Q)
theorem RDs.cut {m : Mp} {H : Hp} {ds : List D} {vs : List V} (h : RDs g m H ds vs) (lo hi : Option Int) : RDs g m H (cutL ds lo hi) (cutV vs lo hi) := by
  show RDs g m H ((ds.drop (HT.sIx ds.length 0 lo)).take (HT.sIx ds.length ds.length hi - HT.sIx ds.length 0 lo)) ((vs.drop (HT.sIx vs.length 0 lo)).take (HT.sIx vs.length vs.length hi - HT.sIx vs.length 0 lo))
  rw [h.length]
  exact (h.drop _).take _
theorem sl_any (hK : X.K = g.K) : SlR X (rSli g) := by
  intro pins s σ H x v vl vu lo hi sl Q I rx hs pl pu h
  obtain ⟨m, st, dx, S, hx, h⟩ := h
  unfold sliQ at h
  split at h
  · cases rd_str hx
    rename_i z
    refine sl_str pins s σ H _ v vl vu lo hi sl Q I rx hs pl pu ⟨_, rfl, by rw [str_len]; exact h.1, ?_⟩
    have q := Wn.str S h.2
    unfold cutS
    rw [str_len, List.toList_toArray]
    exact q
  · obtain ⟨a, vs, rfl, h1, h2⟩ := rd_tup hx
    refine sl_tupA pins s σ H _ v vl vu lo hi sl Q I rx hs pl pu ⟨a, vs, rfl, hK ▸ h1, fun e => ?_, fun _ p n => Wn.tup S n (h2.cut lo hi) h⟩
    have q := h2.cut lo hi
    have e3 : cutV vs lo hi = vs := by
      unfold cutV
      rw [e.1, e.2, List.drop_zero, Nat.sub_zero, List.take_length]
    rw [e3] at q
    exact h m H _ (.refl _ _) S ⟨a, vs, rfl, h1, q⟩
  · obtain ⟨a, rfl, ha⟩ := rd_ref hx
    split at h
    · rename_i e0
      obtain ⟨vs, h1, h2⟩ := S.sqL ha (.inl e0)
      exact sl_list pins s σ H _ v vl vu lo hi sl Q I rx hs pl pu ⟨a, vs, rfl, hK ▸ h1, fun p n => Wn.new S n rfl (ro_lst (n := 0) S n (h2.cut lo hi)) h⟩
    · rename_i e0
      obtain ⟨vs, h1, h2⟩ := S.sqL ha (.inr e0)
      exact sl_list pins s σ H _ v vl vu lo hi sl Q I rx hs pl pu ⟨a, vs, rfl, hK ▸ h1, fun p n => Wn.new S n rfl (ro_lst (n := 0) S n (h2.cut lo hi)) h⟩
    · exact h.elim
  · exact h.elim
def rSet (g : G) : TSet := fun o i v H Q => ∃ m st do_ di dv, SR g m H st ∧ RD g m H do_ o ∧ RD g m H di i ∧ RD g m H dv v ∧ setQ st do_ di dv fun s => ∀ m' H', Ext m m' H H' → SR g m' H' s → Q H'
theorem set_any : PSet X (rSet g) := by
  intro pins s σ H o i v ov iv u Q I ro ri rv h
  obtain ⟨m, st, d1, d2, d3, S, h1, h2, h3, h⟩ := h
  unfold setQ at h
  split at h
  · obtain ⟨a, rfl, ha⟩ := rd_ref h1
    split at h
    · rename_i e0
      obtain ⟨k, j, rfl, e, h⟩ := h
      cases rd_int h2
      obtain ⟨vs, k1, k2⟩ := S.lst ha e0
      refine set_list pins s σ H _ _ v ov iv u Q I ro ri rv ⟨a, vs, k, j, rfl, rfl, k1, by rw [k2.length]; exact e, ?_⟩
      have x : Ext m m H (upd H a (.lst (vs.set j v))) := ext_mut (by rw [k1]; trivial)
      exact h _ _ x (S.write ha e0 rfl rfl ⟨_, upd_same, RDs.mono x _ _ (k2.set j h3)⟩)
    · exact h.elim
  · exact h.elim
end
end Y
set_option linter.all false
set_option maxHeartbeats 4000000
set_option maxRecDepth 100000
namespace Y
open PySem PySem.Spec PyProof.Rows L2
structure Nm where
  fn : Nat → Option Str
  gl : Nat → Option Str
  cl : Nat → Option Str
  ex : Nat → Option Str
  fd : Nat → Option Str
  mk_ : Nat → Option Nat
  df : Nat → List D
  mt : Nat → Nat → Option Str
structure Sta where
  N : List Str
  sc : Scope
def visB (S : Sta) (x : Str) : Bool := match S.sc.names.lookup x with
  | some .local => true | some .cell => true | some .free => true
  | _ => false
def locB (S : Sta) (x : Str) : Bool := match S.sc.names.lookup x with
  | some .local => true | some .cell => true
  | _ => false
def gloB (S : Sta) (x : Str) : Bool := match S.sc.names.lookup x with
  | some .globalImplicit => true
  | _ => false
def okN (x : Str) : Bool := !(x == ("__debug__" : Str)) && !(x == ("__classdict__" : Str))
def conB : D → Const → Bool
  | .non, .none => true
  | .bl b, .bool c => b == c
  | .int i, .int j => decide (i = j)
  | .str x, .str y => decide (y = ⟨x.toArray⟩)
  | _, _ => false
def opB : Op → Operator → Bool
  | .add, .Add => true | .sub, .Sub => true | .mul, .Mult => true | .fdiv, .FloorDiv => true | .mod, .Mod => true | .pow, .Pow => true
  | _, _ => false
theorem opB_ok {o : Op} {p : Operator} (h : opB o p = true) : p = opR o := by
  cases o <;> cases p <;> first | rfl | cases h
def cmB : Cm → CmpOp → Bool
  | .eq, .Eq => true | .ne, .NotEq => true | .lt, .Lt => true | .le, .LtE => true | .gt, .Gt => true | .ge, .GtE => true | .inn, .In => true | .nin, .NotIn => true
  | _, _ => false
theorem cmB_ok {o : Cm} {p : CmpOp} (h : cmB o p = true) : p = cmR o := by
  cases o <;> cases p <;> first | rfl | cases h
def noSet : Expr → Bool
  | .Set .. => false
  | _ => true
theorem noSet_mark {op : CmpOp} {e : Expr} (h : noSet e = true) : behindInMarks op e = false := by
  cases e <;> first | rfl | cases h
theorem noSet_fold {e : Expr} {env : PySem.Env} (h : noSet e = true) (x : Value) : foldedSetIterable e env x = pure x := by
  cases e <;> first | rfl | cases h
def noStar : Expr → Bool
  | .Starred .. => false
  | _ => true
theorem star_cons {e : Expr} {es : List Expr} {env : PySem.Env} (h : noStar e = true) : starEach (e :: es) env = (false, eval e env) :: starEach es env := by
  cases e <;> first | rfl | cases h
def noStars (es : List Expr) : Bool := es.all noStar
theorem star_any {pos : Pos} {env : PySem.Env} : ∀ {es : List Expr}, noStars es = true → (backTo pos (starEach es env)).any (·.1) = false
  | [], _ => rfl
  | e :: es, h => by
    have h2 : (noStar e && noStars es) = true := h
    rw [Bool.and_eq_true] at h2
    rw [star_cons h2.1]
    show (false || (backTo pos (starEach es env)).any (·.1)) = false
    rw [star_any h2.2]
    rfl
theorem star_len {pos : Pos} {env : PySem.Env} : ∀ {es : List Expr}, noStars es = true → (backTo pos (starEach es env)).all (fun x => !x.1) = true
  | [], _ => rfl
  | e :: es, h => by
    have h2 : (noStar e && noStars es) = true := h
    rw [Bool.and_eq_true] at h2
    rw [star_cons h2.1]
    show (true && (backTo pos (starEach es env)).all (fun x => !x.1)) = true
    rw [star_len h2.2]
    rfl
def dotB : Expr → Bool
  | .Call (.Name _ _) [] [] _ => false
  | _ => true
theorem dot_base {o : Expr} {f : Str} {env : PySem.Env} {wh : Sem Value} (h : dotB o = true) : attributeBase o f env wh = wh := by
  unfold attributeBase
  split
  · cases h
  · rfl
def tvB : Expr → Bool
  | .UnaryOp .Not _ _ => false
  | .BoolOp .. => false
  | .IfExp .. => false
  | .Compare .. => false
  | _ => true
theorem tv_true {e : Expr} {env : PySem.Env} (h : tvB e = true) (wh : Sem Value) : isTrue e env wh = (do let v ← wh; standAt e.pos; holding [v] (truthy v)) := by
  cases e <;> first
    | rfl
    | (cases h; done)
    | (rename_i op x p
       cases op <;> first | rfl | cases h)
def ixB : Expr → Bool
  | .Slice .. => false
  | _ => true
theorem ix_plain {e : Expr} (h : ixB e = true) : PlainIx e := by
  intro o i
  cases e <;> first | rfl | cases h
def prN : Pr → Str
  | .len => "len" | .int => "int" | .str => "str" | .abs => "abs" | .max2 => "max" | .min2 => "min" | .tuple => "tuple" | .list => "list" | .any => "any" | .all => "all" | .sum => "sum" | .max => "max" | .min => "min" | .bool => "bool"
def tyN : Ty → Option Str
  | .int => some "int" | .str => some "str" | .bool => some "bool" | .tuple => some "tuple" | .list => some "list" | .dict => some "dict"
  | .own _ => none
def bltNames : List Str := ["len", "int", "str", "abs", "max", "min", "tuple", "list", "any", "all", "sum", "bool", "isinstance", "range", "enumerate", "zip", "dict", "sorted", "reversed"]
def tailB (op : PySem.BoolOp) (l : List Expr) (pos : Pos) : Expr := match l with
  | [x] => x
  | l => .BoolOp op l pos
def ownP (S : Sta) (own : List Nat) : List (Str × Nat) := own.map fun i => (S.N.getD i "", i)
def blkS (S : Sta) (sc : Scope) : Sta := ⟨S.N, relS sc S.sc⟩
def tgVs : Tg → List Nat
  | .nm i => [i]
  | .tp is => is
def stB (S : Sta) (raw : Option Scope) (x : Str) : Bool := locB S x && (match raw with
  | none => true
  | some sc => (match S.sc.names.lookup x with
    | some .local => true
    | _ => (match sc.names.lookup x with
      | some .cell => true
      | _ => false)))
def ckTg (S : Sta) (raw : Option Scope) : Tg → Expr → Bool
  | .nm i, .Name x _ => decide (S.N[i]? = some x) && stB S raw x
  | .tp is, .Tuple es _ _ => decide (es.length = is.length) && (is.zip es).all fun p => match p.2 with
    | .Name x _ => decide (S.N[p.1]? = some x) && stB S raw x
    | _ => false
  | _, _ => false
def ckTy (n : Nm) (S : Sta) (t : Ty) : Expr → Bool
  | .Name x _ => gloB S x && okN x && (match t with
    | .own c => decide (n.cl c = some x)
    | t => decide (tyN t = some x))
  | _ => false
mutual
def ckE (n : Nm) : E → Sta → Expr → Bool
  | .var i, S, ex => (match ex with
    | .Name x _ => decide (S.N[i]? = some x) && visB S x && okN x
    | _ => false)
  | .con d, S, ex => (match ex with
    | .Constant c _ _ => conB d c
    | _ => false)
  | .glo k, S, ex => (match ex with
    | .Name x _ => decide (n.gl k = some x) && gloB S x && okN x
    | _ => false)
  | .bin o a b, S, ex => (match ex with
    | .BinOp ea op eb _ => opB o op && ckE n a S ea && ckE n b S eb
    | _ => false)
  | .neg a, S, ex => (match ex with
    | .UnaryOp .USub ea _ => ckE n a S ea
    | _ => false)
  | .cmp o a b, S, ex => (match ex with
    | .Compare ea [op] [eb] _ => cmB o op && noSet eb && ckE n a S ea && ckE n b S eb
    | _ => false)
  | .chain o o' a b c, S, ex => (match ex with
    | .Compare ea [op, op'] [eb, ec] _ => cmB o op && cmB o' op' && noSet ec && ckE n a S ea && ckE n b S eb && ckE n c S ec
    | _ => false)
  | .isN a, S, ex => (match ex with
    | .Compare ea [.Is] [.Constant .none _ _] _ => ckE n a S ea
    | _ => false)
  | .notN a, S, ex => (match ex with
    | .Compare ea [.IsNot] [.Constant .none _ _] _ => ckE n a S ea
    | _ => false)
  | .and a b, S, ex => (match ex with
    | .BoolOp .And (x :: y :: r) pos => ckE n a S x && ckE n b S (tailB .And (y :: r) pos)
    | _ => false)
  | .or a b, S, ex => (match ex with
    | .BoolOp .Or (x :: y :: r) pos => ckE n a S x && ckE n b S (tailB .Or (y :: r) pos)
    | _ => false)
  | .not a, S, ex => (match ex with
    | .UnaryOp .Not ea _ => ckE n a S ea
    | _ => false)
  | .ife c a b, S, ex => (match ex with
    | .IfExp ec ea eb _ => ckT n c S ec && ckE n a S ea && ckE n b S eb
    | _ => false)
  | .call f as df, S, ex => (match ex with
    | .Call (.Name x _) args [] _ => decide (n.fn f = some x) && (df.isEmpty || decide (df = n.df f)) && gloB S x && okN x && noStars args && ckA n as S args
    | _ => false)
  | .make c f as, S, ex => (match ex with
    | .Call (.Name x _) args [] _ => decide (n.cl c = some x) && decide (n.mk_ c = some f) && gloB S x && okN x && noStars args && ckA n as S args
    | _ => false)
  | .meth alts o as, S, ex => (match ex with
    | .Call (.Attribute eo m apos) args [] pos => (alts.all fun p => decide (n.mt p.1 p.2 = some m)) && dotB eo && (apos.endLine == pos.line) && decide (args.length < 30) && noStars args && ckE n o S eo && ckA n as S args
    | _ => false)
  | .fld f o, S, ex => (match ex with
    | .Attribute eo x _ => decide (n.fd f = some x) && dotB eo && ckE n o S eo
    | _ => false)
  | .pr p as, S, ex => (match ex with
    | .Call (.Name x _) (a0 :: args) [] _ => decide (x = prN p) && gloB S x && okN x && noStars (a0 :: args) && ckA n as S (a0 :: args)
    | _ => false)
  | .me m o as, S, ex => (match ex with
    | .Call (.Attribute eo x apos) args [] pos => decide (x = (meI m).2.2) && dotB eo && (apos.endLine == pos.line) && decide (args.length < 30) && noStars args && ckE n o S eo && ckA n as S args
    | _ => false)
  | .isi a ts, S, ex => (match ex with
    | .Call (.Name x _) [ea, ec] [] _ => decide (x = "isinstance") && gloB S x && okN x && noStar ea && ckE n a S ea && (match ts with
      | [t] => ckTy n S t ec
      | ts => (match ec with
        | .Tuple cs _ _ => noStars cs && (decide (cs.length = ts.length) && decide (ts.length ≤ 1000)) && (ts.zip cs).all fun p => ckTy n S p.1 p.2
        | _ => false))
    | _ => false)
  | .idx a b, S, ex => (match ex with
    | .Subscript ea eb _ => ixB eb && ckE n a S ea && ckE n b S eb
    | _ => false)
  | .sli a lo hi, S, ex => (match ex with
    | .Subscript ea (.Slice el eh none _) _ => ckE n a S ea && (match el with
      | some el => ckE n lo S el
      | none => (match lo with
        | .abs0 => true
        | _ => false)) && (match eh with
      | some eh => ckE n hi S eh
      | none => (match hi with
        | .abs0 => true
        | _ => false))
    | _ => false)
  | .tup as, S, ex => (match ex with
    | .Tuple es _ _ => noStars es && decide (es.length ≤ 1000) && ckA n as S es
    | _ => false)
  | .lst as, S, ex => (match ex with
    | .List es _ => noStars es && decide (es.length ≤ 1000) && ckA n as S es
    | _ => false)
  | .comp elt tg it cs own, S, ex => (match ex with
    | .ListComp ee [⟨tg', iter, ifs, 0⟩] sc _ => ckI n it S tg' iter && noSet iter && blkC S.N S.sc sc (ownP S own) && (own.all fun i => decide (i < S.N.length)) && ckTg (blkS S sc) (some sc) tg tg' && ((tgVs tg).all own.contains) && ckE n elt (blkS S sc) ee && ckTs n cs (blkS S sc) ifs
    | _ => false)
  | .fstr as, S, ex => (match ex with
    | .JoinedStr (x :: y :: r) _ => ckF n as S (x :: y :: r)
    | _ => false)
  | .bad, _, _ => true
  | _, _, _ => false
def ckT (n : Nm) : E → Sta → Expr → Bool
  | .cmp o a b, S, ex => (match ex with
    | .Compare ea [op] [eb] _ => cmB o op && noSet eb && ckE n a S ea && ckE n b S eb
    | _ => false)
  | .chain o o' a b c, S, ex => (match ex with
    | .Compare ea [op, op'] [eb, ec] _ => cmB o op && cmB o' op' && noSet ec && ckE n a S ea && ckE n b S eb && ckE n c S ec
    | _ => false)
  | .isN a, S, ex => (match ex with
    | .Compare ea [.Is] [.Constant .none _ _] _ => ckE n a S ea
    | _ => false)
  | .notN a, S, ex => (match ex with
    | .Compare ea [.IsNot] [.Constant .none _ _] _ => ckE n a S ea
    | _ => false)
  | .and a b, S, ex => (match ex with
    | .BoolOp .And (x :: y :: r) pos => ckT n a S x && ckT n b S (tailB .And (y :: r) pos)
    | _ => false)
  | .or a b, S, ex => (match ex with
    | .BoolOp .Or (x :: y :: r) pos => ckT n a S x && ckT n b S (tailB .Or (y :: r) pos)
    | _ => false)
  | .not a, S, ex => (match ex with
    | .UnaryOp .Not ea _ => ckT n a S ea
    | _ => false)
  | .tv a, S, ex => tvB ex && ckE n a S ex
  | .bad, _, _ => true
  | _, _, _ => false
def ckA (n : Nm) : A → Sta → List Expr → Bool
  | .nil, _, es => (match es with
    | [] => true
    | _ => false)
  | .cons e as, S, es => (match es with
    | x :: r => ckE n e S x && ckA n as S r
    | _ => false)
def ckF (n : Nm) : A → Sta → List Expr → Bool
  | .nil, _, es => (match es with
    | [] => true
    | _ => false)
  | .cons e as, S, es => (match es with
    | .FormattedValue x (-1) none _ :: r => ckE n e S x && ckF n as S r
    | .Constant (.str x) _ _ :: r => (match e with
      | .con (.str y) => decide (x = ⟨y.toArray⟩) && decide (y.length ≤ 1000)
      | _ => false) && ckF n as S r
    | _ => false)
def ckTs (n : Nm) : A → Sta → List Expr → Bool
  | .nil, _, es => (match es with
    | [] => true
    | _ => false)
  | .cons e as, S, es => (match es with
    | [x] => ckT n e S x && (match as with
      | .nil => true
      | _ => false)
    | _ => false)
def ckI (n : Nm) : E → Sta → Expr → Expr → Bool
  | .rng1 a, S, _, ex => (match ex with
    | .Call (.Name x _) [ea] [] _ => decide (x = "range") && gloB S x && okN x && noStar ea && ckE n a S ea
    | _ => false)
  | .rng2 a b, S, _, ex => (match ex with
    | .Call (.Name x _) [ea, eb] [] _ => decide (x = "range") && gloB S x && okN x && noStar ea && noStar eb && ckE n a S ea && ckE n b S eb
    | _ => false)
  | .enm a, S, tg, ex => (match tg, ex with
    | .Tuple _ _ _, .Call (.Name x _) [ea] [] _ => decide (x = "enumerate") && gloB S x && okN x && noStar ea && ckE n a S ea
    | _, _ => false)
  | .zip a b, S, tg, ex => (match tg, ex with
    | .Tuple _ _ _, .Call (.Name x _) [ea, eb] [] _ => decide (x = "zip") && gloB S x && okN x && noStar ea && noStar eb && ckE n a S ea && ckE n b S eb
    | _, _ => false)
  | .sq a, S, _, ex => ckE n a S ex
  | .bad, _, _, _ => true
  | _, _, _, _ => false
end
end Y
set_option linter.all false
set_option maxHeartbeats 4000000
set_option maxRecDepth 100000
namespace Y
open PySem PySem.Spec PyProof.Rows L2
abbrev Wx (g : G) (m : Mp) (H : Hp) (E : XK) : QX := fun x s => ∀ m' H' cls dx, Ext m m' H H' → SR g m' H' s → RX g m' H' x cls dx → E cls dx H'
def spF (g : G) (C : Calls) (f : Nat) : Sp := fun vs H Q E => ∃ m st ds, SR g m H st ∧ RDs g m H ds vs ∧ C f ds st (Wn g m H Q) (Wx g m H E)
structure TopAt (g : G) (T : Tab) (n : Nm) (mg : Str → Option Value) : Prop where
  nm : g.nm = n.fd
  okc : ∀ c, g.okc c = (n.cl c).isSome
  oke : ∀ c, g.oke c = (n.ex c).isSome
  exg : ∀ c x, n.ex c = some x → mg x = some (.ref (g.ca c))
  exm : ∀ c c' x x', n.ex c = some x → n.ex c' = some x' → PySem.W.exmOne g.K (.ref (g.ca c)) (.ref (g.ca c')) = some (T.sub c c')
  ex0 : ∀ c x, n.ex c = some x → T.exf c = some none → (∃ bm, ExcBaseFacts "ValueError" "ValueError.__new__" "ValueError.__init__" bm ∧ PySem.W.excIn g.K (g.ca c) bm "ValueError.__new__" = true) ∧ PySem.W.keepIn g.K (.ref (g.ca c)) = true ∧
    PySem.W.subIn g.K (.ref (g.ca c)) (.type "BaseException") = some true ∧ PySem.W.typeIn g.K (.ref (g.ca c)) = some (.type "type")
  glo : ∀ i d x, T.glo i = some d → n.gl i = some x → ∃ u v, mg x = some u ∧ RelV v u ∧ ∀ m H, RD g m H d v
  blt : ∀ x ∈ bltNames, mg x = none
  fn : ∀ f x, n.fn f = some x → mg x = some (.ref (g.fa f)) ∧ PySem.W.keepIn g.K (.ref (g.fa f)) = true
  cl : ∀ c x, n.cl c = some x → mg x = some (.ref (g.ca c)) ∧ ClsAt g.K (g.ca c)
  noat : ∀ c x f y, n.cl c = some x → n.fd f = some y → NoAttr g.K (g.ca c) y
  nofd : ∀ c f x k, n.mt c f = some x → n.fd k ≠ some x
  mk_ : ∀ c f, n.mk_ c = some f → Mk g.K (g.ca c) (g.fa f)
  mt : ∀ c f x, n.mt c f = some x → Meth g.K (g.ca c) x (g.fa f)
  kit : ∀ c x t, n.cl c = some x → (∀ d, t = .own d → (n.cl d).isSome = true) → PySem.W.kitOne g.K (.ref (g.ca c)) (tyV1 g t) = some (isTy T (some (.own c)) t)
  kit2 : ∀ c x (t : String), n.cl c = some x → t ∈ ["NoneType", "bool", "int", "str", "tuple", "list", "dict"] → PySem.W.kitOne g.K (.type t) (.ref (g.ca c)) = some false
def spX (K : PySem.W.Frag) (C : Addr) (y : Str) : Sp := fun vs H Q _ => ∃ (a : Addr) (v : V), vs = [.ref a, v] ∧ H a = some (exo a C none) ∧ ∀ dx, H dx = none → dx ≠ a → Q .non (upd (upd H dx (exd dx [(y, v)])) a (exo a C (some dx)))
structure ExiAt (g : G) (T : Tab) (n : Nm) (P : Program) (w : World) (mg : Str → Option Value) (base : Heap) : Prop where
  ok : ∀ c x f y, n.ex c = some x → T.exf c = some (some f) → n.fd f = some y → OexC g.K (g.ca c) ∧ ∃ fI fd ps, PySem.W.findIn g.K (.ref (g.ca c)) "__init__" = some (some (.ref fI)) ∧ PySem.W.typeIn g.K (.ref fI) = some (.type "function") ∧
    FnOk P w g.K mg base (L2.CX P w) 1 fI fd ps (spX g.K (g.ca c) y) ∧ Binds g.K fd ps []
  fd : ∀ c x f, n.ex c = some x → T.exf c = some (some f) → (n.fd f).isSome = true
structure CalAt (g : G) (n : Nm) (P : Program) (w : World) (mg : Str → Option Value) (base : Heap) (L : Nat) (C : Calls) (f : Nat) : Prop where
  ok : ∃ fd ps, FnOk P w g.K mg base (L2.CX P w) L (g.fa f) fd ps (spF g C f) ∧ Binds g.K fd ps [] ∧ (n.df f ≠ [] → ∃ ds dvs, Vals dvs ds ∧ Binds g.K fd ps ds ∧ ∀ m H, RDs g m H (n.df f) dvs)
structure CxOk (g : G) (T : Tab) (n : Nm) (C : Calls) (L : Nat) (hx : Option Exc) (W : WX) (S : Sta) (X : Cx) : Prop where
  K : X.K = g.K
  N : X.N = S.N
  nd : X.N.Nodup
  sc : X.env.scope = S.sc
  F : Vf g T X.w
  MC : MonoC C
  tk : Takes X W
  hu : X.A.units + 64 < cLine
  calm : hx = none → X.calm = true
  room : hx = none → Room (L + 1) X.A
  top : TopAt g T n X.mg
  cal : ∀ f ds st Q E, C f ds st Q E → CalAt g n X.prog X.w X.mg X.base L C f
  hL : 1 ≤ L
  exi : ExiAt g T n X.prog X.w X.mg X.base
section
variable {g : G} {T : Tab} {n : Nm} {C : Calls} {L : Nat} {hx : Option Exc} {W : WX} {S : Sta} {X : Cx}
theorem CxOk.vis (O : CxOk g T n C L hx W S X) {x : Str} (h : visB S x = true) : Vis X.env.scope x := by
  unfold visB at h
  rw [← O.sc] at h
  split at h
  · exact .inl (by assumption)
  · exact .inr (.inl (by assumption))
  · exact .inr (.inr (by assumption))
  · cases h
theorem CxOk.loc (O : CxOk g T n C L hx W S X) {x : Str} (h : locB S x = true) : Loc X.env.scope x := by
  unfold locB at h
  rw [← O.sc] at h
  split at h
  · exact .inl (by assumption)
  · exact .inr (by assumption)
  · cases h
theorem CxOk.gl (O : CxOk g T n C L hx W S X) {x : Str} (h : gloB S x = true) : Gl X x := by
  unfold gloB at h
  rw [← O.sc] at h
  show X.env.scope.names.lookup x = some .globalImplicit
  split at h
  · assumption
  · cases h
theorem okN_1 {x : Str} (h : okN x = true) : (x == ("__debug__" : Str)) = false := by
  unfold okN at h
  rw [Bool.and_eq_true, Bool.not_eq_true'] at h
  exact h.1
theorem okN_2 {x : Str} (h : okN x = true) : (x == ("__classdict__" : Str)) = false := by
  unfold okN at h
  rw [Bool.and_eq_true, Bool.not_eq_true', Bool.not_eq_true'] at h
  exact h.2
theorem run_at {pins : List (Addr × Obj)} {σ : L2.St} {H : Hp} {s : Shared} {Q : VK} {us : List Value} {vs dvs : List V} {ds : List Value} {k : Nat} {f : Addr} {fd : FuncData} {ps : List Str} {sp : Sp} (F : FnOk X.prog X.w X.K X.mg X.base (L2.CX X.prog X.w) k f fd ps sp) (hr : Room k X.A)
    (hb : Binds X.K fd ps ds) (hd : Vals dvs ds) (tk : Takes X W) (I : Inv X pins σ H s) (r : Vals vs us) (h : sp (vs ++ dvs) H Q (WE W σ)) : wpAny (model X.prog X.w) X.A (call (.ref f) us) (EP X pins σ Q) X.xe s := by
  have r2 : Vals (vs ++ dvs) (us ++ ds) := r.append hd
  have l : (us ++ ds).length = ps.length := r2.length.symm.trans (F.len _ _ _ _ h)
  have b := hb s us I.kIn l
  refine wpAny_call (codeAny_mono (F.run _ _ s H _ _ _ Q (WE W σ) hr I.env0 b r2 h) fun z s' q => ?_)
  cases z with
  | error e => exact passAt tk σ pins H s e s' I q
  | ok fl =>
    cases fl with
    | ret u => exact I.after q
    | _ => exact q.elim
theorem make_at {pins : List (Addr × Obj)} {σ : L2.St} {H : Hp} {s : Shared} {Q : VK} {us : List Value} {vs : List V} {k : Nat} {f D : Addr} {fd : FuncData} {ps : List Str} {sp : Sp} (M : Mk X.K D f) (F : FnOk X.prog X.w X.K X.mg X.base (L2.CX X.prog X.w) k f fd ps sp) (hr : Room (k + 1) X.A)
    (hb : Binds X.K fd ps []) (tk : Takes X W) (I : Inv X pins σ H s) (r : Vals vs us)
    (h : ∀ x dx, H x = none → H dx = none → dx ≠ x → sp (.ref x :: vs) (upd (upd H dx (.own x)) x (.ins D dx [])) (fun v H2 => v = .non ∧ Q (.ref x) H2) (WE W σ)) :
    wpAny (model X.prog X.w) X.A (call (.ref D) us) (EP X pins σ Q) X.xe s := by
  have q := h (s.heap.objs.size + 1) s.heap.objs.size (I.hok.fresh (Nat.le_succ _)) (I.hok.fresh (Nat.le_refl _)) (Nat.ne_of_lt (Nat.lt_succ_self _))
  have J := Inv.made (C := D) I
  have r2 : Vals (V.ref (s.heap.objs.size + 1) :: vs) (Value.ref (s.heap.objs.size + 1) :: us) := .cons rfl r
  have l : ((Value.ref (s.heap.objs.size + 1) :: us) ++ []).length = ps.length := by
    rw [List.append_nil]
    exact r2.length.symm.trans (F.len _ _ _ _ q)
  have b := hb _ (Value.ref (s.heap.objs.size + 1) :: us) J.kIn l
  rw [List.append_nil] at b
  refine wpAny_call (make_map (f := f) I.kIn M.makes M.init (beq_iff_eq.mp M.fn) (codeAny_mono (F.run _ X.stack _ _ _ _ _ _ (WE W σ) (hr.make D us []) (J.env0.make D us []) b r2 q) fun z s' q' => ?_))
  cases z with
  | error e => exact passAt tk σ pins _ _ e s' J q'
  | ok fl =>
    cases fl with
    | ret u =>
      obtain ⟨v, H', I3, rv, ev, q3⟩ := J.after q'
      subst ev
      exact ⟨rv, V.ref (s.heap.objs.size + 1), H', I3, rfl, q3⟩
    | _ => exact q'.elim
theorem rE_of {e : E} {σ : L2.St} {H : Hp} {Q : VK} {m : Mp} {env : Env} {st : Store} (SR_ : SR g m H st) (ER_ : ER g m H σ env) (h : wpE T C hx e env st (Wn g m H Q) (Wx g m H (WE W σ))) : rE g T C hx W e σ H Q := ⟨m, env, st, SR_, ER_, h⟩
theorem Wn.ext {m m' : Mp} {H H' : Hp} {Q : VK} (e : Ext m m' H H') {d : D} {s : Store} (h : Wn g m H Q d s) : Wn g m' H' Q d s := fun m2 H2 v e2 => h m2 H2 v (e.trans e2)
theorem Wx.ext {m m' : Mp} {H H' : Hp} {E0 : XK} (e : Ext m m' H H') {x : Exc} {s : Store} (h : Wx g m H E0 x s) : Wx g m' H' E0 x s := fun m2 H2 c d e2 => h m2 H2 c d (e.trans e2)
section
variable (O : CxOk g T n C L hx W S X)
include O
theorem go_E {e : E} {σ : L2.St} {H : Hp} {m : Mp} {env : Env} {st : Store} {Q : VK} {R : QE} (SR_ : SR g m H st) (ER_ : ER g m H σ env) (h : wpE T C hx e env st R (Wx g m H (WE W σ)))
    (k : ∀ d s m' H' v, Ext m m' H H' → SR g m' H' s → ER g m' H' σ env → RD g m' H' d v → R d s → Q v H') : rE g T C hx W e σ H Q :=
  ⟨m, env, st, SR_, ER_, wpE_mono O.MC e env st _ _ _ _ (fun d s hr m' H' v e1 s1 r1 => k d s m' H' v e1 s1 (ER_.mono e1) r1 hr) (fun _ _ z => z) h⟩
theorem go_T {e : E} {σ : L2.St} {H : Hp} {m : Mp} {env : Env} {st : Store} {Q : Bool → Hp → Prop} {R : Bool → Store → Prop} (SR_ : SR g m H st) (ER_ : ER g m H σ env) (h : wpT T C hx e env st R (Wx g m H (WE W σ)))
    (k : ∀ b s m' H', Ext m m' H H' → SR g m' H' s → ER g m' H' σ env → R b s → Q b H') : rT g T C hx W e σ H Q :=
  ⟨m, env, st, SR_, ER_, wpT_mono O.MC e env st _ _ _ _ (fun b s hr m' H' e1 s1 => k b s m' H' e1 s1 (ER_.mono e1) hr) (fun _ _ z => z) h⟩
theorem go_A {as : A} {σ : L2.St} {H : Hp} {m : Mp} {env : Env} {st : Store} {Q : List V → Hp → Prop} {R : List D → Store → Prop} (SR_ : SR g m H st) (ER_ : ER g m H σ env) (h : wpA T C hx as env st R (Wx g m H (WE W σ)))
    (k : ∀ ds s m' H' vs, Ext m m' H H' → SR g m' H' s → ER g m' H' σ env → RDs g m' H' ds vs → R ds s → Q vs H') : rA g T C hx W as σ H Q :=
  ⟨m, env, st, SR_, ER_, wpA_mono O.MC as env st _ _ _ _ (fun ds s hr m' H' vs e1 s1 r1 => k ds s m' H' vs e1 s1 (ER_.mono e1) r1 hr) (fun _ _ z => z) h⟩
theorem x_E {e : E} {env : Env} {st : Store} {m m' : Mp} {H H' : Hp} {σ : L2.St} {R : QE} (e1 : Ext m m' H H') (h : wpE T C hx e env st R (Wx g m H (WE W σ))) : wpE T C hx e env st R (Wx g m' H' (WE W σ)) := wpE_mono O.MC e env st _ _ _ _ (fun _ _ z => z) (fun _ _ z => Wx.ext e1 z) h
theorem x_T {e : E} {env : Env} {st : Store} {m m' : Mp} {H H' : Hp} {σ : L2.St} {R : Bool → Store → Prop} (e1 : Ext m m' H H') (h : wpT T C hx e env st R (Wx g m H (WE W σ))) : wpT T C hx e env st R (Wx g m' H' (WE W σ)) := wpT_mono O.MC e env st _ _ _ _ (fun _ _ z => z) (fun _ _ z => Wx.ext e1 z) h
theorem x_A {as : A} {env : Env} {st : Store} {m m' : Mp} {H H' : Hp} {σ : L2.St} {R : List D → Store → Prop} (e1 : Ext m m' H H') (h : wpA T C hx as env st R (Wx g m H (WE W σ))) : wpA T C hx as env st R (Wx g m' H' (WE W σ)) := wpA_mono O.MC as env st _ _ _ _ (fun _ _ z => z) (fun _ _ z => Wx.ext e1 z) h
theorem s_var {i : Nat} {x : Str} {pos : Pos} (h1 : S.N[i]? = some x) (h2 : visB S x = true) (h3 : okN x = true) : PE X (.Name x pos) (rE g T C hx W (.var i)) := by
  refine PE.weak (pe_var (i := i) (by rw [O.N]; exact h1) (O.vis h2) (okN_1 h3) (okN_2 h3)) fun σ H Q ⟨m, env, st, SR_, ER_, h⟩ => ?_
  have h : getV env i (fun d => Wn g m H Q d st) := h
  unfold getV at h
  split at h
  · rename_i d e
    obtain ⟨v, e2, r⟩ := ER_.at_ i d e
    exact ⟨v, e2, Wn.here SR_ r h⟩
  · exact h.elim
theorem s_con {d : D} {c : Const} {k : Nat} {pos : Pos} (h1 : conB d c = true) : PE X (.Constant c k pos) (rE g T C hx W (.con d)) := by
  unfold conB at h1
  split at h1
  · exact PE.weak pe_non fun σ H Q ⟨m, env, st, SR_, ER_, h⟩ => Wn.non SR_ h
  · rename_i b c
    cases eq_of_beq h1
    exact PE.weak pe_bl fun σ H Q ⟨m, env, st, SR_, ER_, h⟩ => Wn.bl SR_ h
  · cases of_decide_eq_true h1
    exact PE.weak pe_int fun σ H Q ⟨m, env, st, SR_, ER_, h⟩ => Wn.int SR_ h
  · cases of_decide_eq_true h1
    exact PE.weak pe_str fun σ H Q ⟨m, env, st, SR_, ER_, h⟩ => Wn.str SR_ h
  · cases h1
theorem s_glo {k : Nat} {x : Str} {pos : Pos} (h1 : n.gl k = some x) (h2 : gloB S x = true) (h3 : okN x = true) : PE X (.Name x pos) (rE g T C hx W (.glo k)) := by
  cases e : T.glo k with
  | none =>
    refine ⟨fun pins s σ H Q I ⟨m, env, st, SR_, ER_, h⟩ => ?_⟩
    unfold wpE at h
    rw [e] at h
    exact h.elim
  | some d =>
    obtain ⟨u, v, e1, r, q⟩ := O.top.glo k d x e h1
    refine PE.weak (pe_glob (O.gl h2) e1 r (okN_1 h3)) fun σ H Q ⟨m, env, st, SR_, ER_, h⟩ => ?_
    unfold wpE at h
    rw [e] at h
    exact Wn.here SR_ (q m H) h
theorem s_bin {o : Op} {op : Operator} {a b : E} {ea eb : Expr} {pos : Pos} (h1 : opB o op = true) (ha : PE X ea (rE g T C hx W a)) (hb : PE X eb (rE g T C hx W b)) : PE X (.BinOp ea op eb pos) (rE g T C hx W (.bin o a b)) := by
  rw [opB_ok h1]
  refine PE.weak (pe_op (op_bin O.K o) ha hb) fun σ H Q ⟨m, env, st, SR_, ER_, h⟩ => ?_
  refine go_E O SR_ ER_ h fun x s1 m1 H1 v1 e1 S1 E1 r1 h1 => ?_
  refine go_E O S1 E1 (x_E O e1 h1) fun y s2 m2 H2 v2 e2 S2 E2 r2 h2 => ?_
  exact ⟨m2, s2, x, y, S2, RD.mono e2 _ _ r1, r2, binQ_mono (fun d s z => Wn.ext (e1.trans e2) z) h2⟩
theorem s_neg {a : E} {ea : Expr} {pos : Pos} (ha : PE X ea (rE g T C hx W a)) : PE X (.UnaryOp .USub ea pos) (rE g T C hx W (.neg a)) := by
  refine PE.weak (pe_un un_neg ha) fun σ H Q ⟨m, env, st, SR_, ER_, h⟩ => ?_
  refine go_E O SR_ ER_ h fun x s1 m1 H1 v1 e1 S1 E1 r1 h1 => ?_
  split at h1
  · cases rd_int r1
    exact ⟨_, rfl, Wn.int S1 (Wn.ext e1 h1)⟩
  · exact h1.elim
theorem s_cmp {o : Cm} {op : CmpOp} {a b : E} {ea eb : Expr} {pos : Pos} (h1 : cmB o op = true) (h2 : noSet eb = true) (ha : PE X ea (rE g T C hx W a)) (hb : PE X eb (rE g T C hx W b)) : PE X (.Compare ea [op] [eb] pos) (rE g T C hx W (.cmp o a b)) := by
  rw [cmB_ok h1]
  refine PE.weak (pe_cmpR (op_cm O.F O.K O.hu o) ha hb (noSet_mark h2)) fun σ H Q ⟨m, env, st, SR_, ER_, h⟩ => ?_
  refine go_E O SR_ ER_ h fun x s1 m1 H1 v1 e1 S1 E1 r1 h1 => ?_
  refine go_E O S1 E1 (x_E O e1 h1) fun y s2 m2 H2 v2 e2 S2 E2 r2 h2 => ?_
  exact ⟨m2, s2, x, y, S2, RD.mono e2 _ _ r1, r2, cmpQ_mono (fun b z => Wn.bl S2 (Wn.ext (e1.trans e2) z)) h2⟩
theorem t_cmp {o : Cm} {op : CmpOp} {a b : E} {ea eb : Expr} {pos : Pos} (h1 : cmB o op = true) (h2 : noSet eb = true) (ha : PE X ea (rE g T C hx W a)) (hb : PE X eb (rE g T C hx W b)) : PT X (.Compare ea [op] [eb] pos) (rT g T C hx W (.cmp o a b)) := by
  rw [cmB_ok h1]
  refine PT.weak (pt_cmpR (op_cm O.F O.K O.hu o) ha hb (noSet_mark h2)) fun σ H Q ⟨m, env, st, SR_, ER_, h⟩ => ?_
  refine go_E O SR_ ER_ h fun x s1 m1 H1 v1 e1 S1 E1 r1 h1 => ?_
  refine go_E O S1 E1 (x_E O e1 h1) fun y s2 m2 H2 v2 e2 S2 E2 r2 h2 => ?_
  exact ⟨m2, s2, x, y, S2, RD.mono e2 _ _ r1, r2, cmpQ_mono (fun b z => ⟨b, rfl, z m2 H2 (e1.trans e2) S2⟩) h2⟩
theorem last_mark {op op' : CmpOp} {b c : Expr} (h : noSet c = true) : lastMarks [op, op'] [b, c] = false := noSet_mark (op := op') h
theorem s_chain {o o' : Cm} {op op' : CmpOp} {a b c : E} {ea eb ec : Expr} {pos : Pos} (h1 : cmB o op = true) (h1' : cmB o' op' = true) (h2 : noSet ec = true) (ha : PE X ea (rE g T C hx W a)) (hb : PE X eb (rE g T C hx W b)) (hc : PE X ec (rE g T C hx W c)) :
    PE X (.Compare ea [op, op'] [eb, ec] pos) (rE g T C hx W (.chain o o' a b c)) := by
  rw [cmB_ok h1, cmB_ok h1']
  refine PE.weak (pe_chain (op_cm O.F O.K O.hu o) (op_cm O.F O.K O.hu o') ha hb hc (last_mark O h2)) fun σ H Q ⟨m, env, st, SR_, ER_, h⟩ => ?_
  refine go_E O SR_ ER_ h fun x s1 m1 H1 v1 e1 S1 E1 r1 h1 => ?_
  refine go_E O S1 E1 (x_E O e1 h1) fun y s2 m2 H2 v2 e2 S2 E2 r2 h2 => ?_
  refine ⟨m2, s2, x, y, S2, RD.mono e2 _ _ r1, r2, cmpQ_mono (fun k z => ⟨k, rfl, ?_⟩) h2⟩
  cases k with
  | false =>
    rw [if_neg Bool.false_ne_true] at z ⊢
    exact Wn.bl S2 (Wn.ext (e1.trans e2) z)
  | true =>
    rw [if_pos rfl] at z ⊢
    refine go_E O S2 E2 (x_E O (e1.trans e2) z) fun w s3 m3 H3 v3 e3 S3 E3 r3 h3 => ?_
    exact ⟨m3, s3, y, w, S3, RD.mono e3 _ _ r2, r3, cmpQ_mono (fun b z => Wn.bl S3 (Wn.ext ((e1.trans e2).trans e3) z)) h3⟩
theorem t_chain {o o' : Cm} {op op' : CmpOp} {a b c : E} {ea eb ec : Expr} {pos : Pos} (h1 : cmB o op = true) (h1' : cmB o' op' = true) (h2 : noSet ec = true) (ha : PE X ea (rE g T C hx W a)) (hb : PE X eb (rE g T C hx W b)) (hc : PE X ec (rE g T C hx W c)) :
    PT X (.Compare ea [op, op'] [eb, ec] pos) (rT g T C hx W (.chain o o' a b c)) := by
  rw [cmB_ok h1, cmB_ok h1']
  refine PT.weak (pt_chain (op_cm O.F O.K O.hu o) (op_cm O.F O.K O.hu o') ha hb hc (last_mark O h2)) fun σ H Q ⟨m, env, st, SR_, ER_, h⟩ => ?_
  refine go_E O SR_ ER_ h fun x s1 m1 H1 v1 e1 S1 E1 r1 h1 => ?_
  refine go_E O S1 E1 (x_E O e1 h1) fun y s2 m2 H2 v2 e2 S2 E2 r2 h2 => ?_
  refine ⟨m2, s2, x, y, S2, RD.mono e2 _ _ r1, r2, cmpQ_mono (fun k z => ⟨k, rfl, ?_⟩) h2⟩
  cases k with
  | false =>
    rw [if_neg Bool.false_ne_true] at z ⊢
    exact ⟨false, rfl, z m2 H2 (e1.trans e2) S2⟩
  | true =>
    rw [if_pos rfl] at z ⊢
    refine go_E O S2 E2 (x_E O (e1.trans e2) z) fun w s3 m3 H3 v3 e3 S3 E3 r3 h3 => ?_
    exact ⟨m3, s3, y, w, S3, RD.mono e3 _ _ r2, r3, cmpQ_mono (fun b z => ⟨b, rfl, z m3 H3 ((e1.trans e2).trans e3) S3⟩) h3⟩
theorem non_iff {m : Mp} {H : Hp} {d : D} {v : V} (r : RD g m H d v) : decide (v = V.non) = decide (d = D.non) := by
  cases d with
  | non => cases rd_non r; rfl
  | bl b => cases rd_bl r; rfl
  | int i => cases rd_int r; rfl
  | str x => cases rd_str r; rfl
  | tup ds => obtain ⟨a, vs, rfl, _⟩ := rd_tup r; rfl
  | ref h => obtain ⟨a, rfl, _⟩ := rd_ref r; rfl
  | kon k => cases (show v = .ref (g.ka k) from r); rfl
theorem s_isN {a : E} {ea : Expr} {j : Nat} {pos pos' : Pos} (ha : PE X ea (rE g T C hx W a)) : PE X (.Compare ea [.Is] [.Constant .none j pos'] pos) (rE g T C hx W (.isN a)) := by
  refine PE.weak (pe_cmp (pc_isN ha) rfl) fun σ H Q ⟨m, env, st, SR_, ER_, h⟩ => ?_
  refine go_E O SR_ ER_ h fun x s1 m1 H1 v1 e1 S1 E1 r1 h1 => ?_
  rw [non_iff O r1]
  exact Wn.bl S1 (Wn.ext e1 h1)
theorem s_notN {a : E} {ea : Expr} {j : Nat} {pos pos' : Pos} (ha : PE X ea (rE g T C hx W a)) : PE X (.Compare ea [.IsNot] [.Constant .none j pos'] pos) (rE g T C hx W (.notN a)) := by
  refine PE.weak (pe_cmp (pc_notN ha) rfl) fun σ H Q ⟨m, env, st, SR_, ER_, h⟩ => ?_
  refine go_E O SR_ ER_ h fun x s1 m1 H1 v1 e1 S1 E1 r1 h1 => ?_
  rw [non_iff O r1]
  exact Wn.bl S1 (Wn.ext e1 h1)
theorem t_isN {a : E} {ea : Expr} {j : Nat} {pos pos' : Pos} (ha : PE X ea (rE g T C hx W a)) : PT X (.Compare ea [.Is] [.Constant .none j pos'] pos) (rT g T C hx W (.isN a)) := by
  refine PT.weak (pt_cmp (pc_isN ha) rfl) fun σ H Q ⟨m, env, st, SR_, ER_, h⟩ => ?_
  refine go_E O SR_ ER_ h fun x s1 m1 H1 v1 e1 S1 E1 r1 h1 => ?_
  rw [non_iff O r1]
  exact ⟨_, rfl, h1 m1 H1 e1 S1⟩
theorem t_notN {a : E} {ea : Expr} {j : Nat} {pos pos' : Pos} (ha : PE X ea (rE g T C hx W a)) : PT X (.Compare ea [.IsNot] [.Constant .none j pos'] pos) (rT g T C hx W (.notN a)) := by
  refine PT.weak (pt_cmp (pc_notN ha) rfl) fun σ H Q ⟨m, env, st, SR_, ER_, h⟩ => ?_
  refine go_E O SR_ ER_ h fun x s1 m1 H1 v1 e1 S1 E1 r1 h1 => ?_
  rw [non_iff O r1]
  exact ⟨_, rfl, h1 m1 H1 e1 S1⟩
theorem s_and {a b : E} {x y : Expr} {r : List Expr} {pos : Pos} (ha : PE X x (rE g T C hx W a)) (hb : PE X (.BoolOp .And (y :: r) pos) (rE g T C hx W b)) : PE X (.BoolOp .And (x :: y :: r) pos) (rE g T C hx W (.and a b)) := by
  refine PE.weak (pe_and ha hb) fun σ H Q ⟨m, env, st, SR_, ER_, h⟩ => ?_
  refine go_E O SR_ ER_ h fun x s1 m1 H1 v1 e1 S1 E1 r1 h1 => ?_
  split at h1
  · cases rd_bl r1
    refine ⟨_, rfl, ?_⟩
    split at h1
    · rename_i e
      rw [if_pos e]
      exact rE_of S1 E1 (wpE_mono O.MC b env s1 _ _ _ _ (fun _ _ z => Wn.ext e1 z) (fun _ _ z => Wx.ext e1 z) h1)
    · rename_i e
      rw [if_neg e]
      exact Wn.bl S1 (Wn.ext e1 h1)
  · exact h1.elim
theorem s_or {a b : E} {x y : Expr} {r : List Expr} {pos : Pos} (ha : PE X x (rE g T C hx W a)) (hb : PE X (.BoolOp .Or (y :: r) pos) (rE g T C hx W b)) : PE X (.BoolOp .Or (x :: y :: r) pos) (rE g T C hx W (.or a b)) := by
  refine PE.weak (pe_or ha hb) fun σ H Q ⟨m, env, st, SR_, ER_, h⟩ => ?_
  refine go_E O SR_ ER_ h fun x s1 m1 H1 v1 e1 S1 E1 r1 h1 => ?_
  split at h1
  · cases rd_bl r1
    refine ⟨_, rfl, ?_⟩
    split at h1
    · rename_i e
      rw [if_pos e]
      exact Wn.bl S1 (Wn.ext e1 h1)
    · rename_i e
      rw [if_neg e]
      exact rE_of S1 E1 (wpE_mono O.MC b env s1 _ _ _ _ (fun _ _ z => Wn.ext e1 z) (fun _ _ z => Wx.ext e1 z) h1)
  · exact h1.elim
theorem s_not {a : E} {ea : Expr} {pos : Pos} (ha : PE X ea (rE g T C hx W a)) : PE X (.UnaryOp .Not ea pos) (rE g T C hx W (.not a)) := by
  refine PE.weak (pe_not ha) fun σ H Q ⟨m, env, st, SR_, ER_, h⟩ => ?_
  refine go_E O SR_ ER_ h fun x s1 m1 H1 v1 e1 S1 E1 r1 h1 => ?_
  split at h1
  · cases rd_bl r1
    exact ⟨_, rfl, Wn.bl S1 (Wn.ext e1 h1)⟩
  · exact h1.elim
theorem w_and {a b : E} {x y : Expr} {r : List Expr} {pos : Pos} (ha : PT X x (rT g T C hx W a)) (hb : PW X (.BoolOp .And (y :: r) pos) (rT g T C hx W b)) : PW X (.BoolOp .And (x :: y :: r) pos) (rT g T C hx W (.and a b)) := by
  refine PW.weak (pw_and ha hb) fun σ H Q ⟨m, env, st, SR_, ER_, h⟩ => ?_
  refine go_T O SR_ ER_ h fun k s1 m1 H1 e1 S1 E1 h1 => ?_
  cases k with
  | true =>
    rw [if_pos rfl] at h1 ⊢
    exact ⟨m1, env, s1, S1, E1, wpT_mono O.MC b env s1 _ _ _ _ (fun k s z m' H' e2 => z m' H' (e1.trans e2)) (fun _ _ z => Wx.ext e1 z) h1⟩
  | false =>
    rw [if_neg Bool.false_ne_true] at h1 ⊢
    exact h1 m1 H1 e1 S1
theorem w_or {a b : E} {x y : Expr} {r : List Expr} {pos : Pos} (ha : PT X x (rT g T C hx W a)) (hb : PW X (.BoolOp .Or (y :: r) pos) (rT g T C hx W b)) : PW X (.BoolOp .Or (x :: y :: r) pos) (rT g T C hx W (.or a b)) := by
  refine PW.weak (pw_or ha hb) fun σ H Q ⟨m, env, st, SR_, ER_, h⟩ => ?_
  refine go_T O SR_ ER_ h fun k s1 m1 H1 e1 S1 E1 h1 => ?_
  cases k with
  | true =>
    rw [if_pos rfl] at h1 ⊢
    exact h1 m1 H1 e1 S1
  | false =>
    rw [if_neg Bool.false_ne_true] at h1 ⊢
    exact ⟨m1, env, s1, S1, E1, wpT_mono O.MC b env s1 _ _ _ _ (fun k s z m' H' e2 => z m' H' (e1.trans e2)) (fun _ _ z => Wx.ext e1 z) h1⟩
theorem t_not {a : E} {ea : Expr} {pos : Pos} (ha : PT X ea (rT g T C hx W a)) : PT X (.UnaryOp .Not ea pos) (rT g T C hx W (.not a)) := by
  refine PT.weak (pt_not ha) fun σ H Q ⟨m, env, st, SR_, ER_, h⟩ => ?_
  exact go_T O SR_ ER_ h fun k s1 m1 H1 e1 S1 E1 h1 => h1 m1 H1 e1 S1
theorem t_tv {a : E} {ea : Expr} (h1 : tvB ea = true) (ha : PE X ea (rE g T C hx W a)) : PT X ea (rT g T C hx W (.tv a)) := by
  refine PT.weak (pt_truth ha (tv_true h1)) fun σ H Q ⟨m, env, st, SR_, ER_, h⟩ => ?_
  refine go_E O SR_ ER_ h fun x s1 m1 H1 v1 e1 S1 E1 r1 h1 => ?_
  obtain ⟨k, h2, h3⟩ := tru_val O.K S1 r1 h1
  exact ⟨k, h2, h3 m1 H1 e1 S1⟩
theorem s_ife {c a b : E} {ec ea eb : Expr} {pos : Pos} (hc : PT X ec (rT g T C hx W c)) (ha : PE X ea (rE g T C hx W a)) (hb : PE X eb (rE g T C hx W b)) : PE X (.IfExp ec ea eb pos) (rE g T C hx W (.ife c a b)) := by
  refine PE.weak (pe_ifExp hc ha hb) fun σ H Q ⟨m, env, st, SR_, ER_, h⟩ => ?_
  refine go_T O SR_ ER_ h fun k s1 m1 H1 e1 S1 E1 h1 => ?_
  cases k with
  | true =>
    rw [if_pos rfl] at h1 ⊢
    exact rE_of S1 E1 (wpE_mono O.MC a env s1 _ _ _ _ (fun _ _ z => Wn.ext e1 z) (fun _ _ z => Wx.ext e1 z) h1)
  | false =>
    rw [if_neg Bool.false_ne_true] at h1 ⊢
    exact rE_of S1 E1 (wpE_mono O.MC b env s1 _ _ _ _ (fun _ _ z => Wn.ext e1 z) (fun _ _ z => Wx.ext e1 z) h1)
end
end
end Y
set_option linter.all false
set_option maxHeartbeats 4000000
set_option maxRecDepth 100000
namespace Y
open PySem PySem.Spec PyProof.Rows L2
theorem lookup_mem {α : Type} {c : Nat} {f : α} : ∀ {alts : List (Nat × α)}, alts.lookup c = some f → (c, f) ∈ alts
  | [], h => by cases h
  | (k, p) :: r, h => by
    rw [List.lookup_cons] at h
    by_cases z : c = k
    · subst z
      rw [beq_self_eq_true] at h
      cases h
      exact List.mem_cons_self
    · rw [show (c == k) = false from Bool.eq_false_iff.mpr fun hb => z (eq_of_beq hb)] at h
      exact List.mem_cons_of_mem _ (lookup_mem h)
theorem rf_none {g : G} {m : Mp} {H : Hp} {x : Str} (hn : ∀ k, g.nm k ≠ some x) : ∀ {fs : List (Nat × D)} {vs : List (Str × V)}, RF g m H fs vs → vs.lookup x = none
  | _, _, .nil => rfl
  | p :: _, (w, u) :: _, .cons hp t => by
    rw [List.lookup_cons, show (x == w) = false from Bool.eq_false_iff.mpr fun hb => hn p.1 (by rw [eq_of_beq hb]; exact hp.1)]
    exact rf_none hn t
theorem rf_get {g : G} {m : Mp} {H : Hp} {x : Str} {f : Nat} {d : D} (nmi : ∀ f f' x, g.nm f = some x → g.nm f' = some x → f = f') (hf : g.nm f = some x) : ∀ {fs : List (Nat × D)} {vs : List (Str × V)}, RF g m H fs vs → fs.lookup f = some d → ∃ v, vs.lookup x = some v ∧ RD g m H d v
  | _, _, .nil, h => by cases h
  | (k, e) :: _, (w, u) :: _, .cons hp t, h => by
    rw [List.lookup_cons] at h
    by_cases z : f = k
    · subst z
      rw [beq_self_eq_true] at h
      cases h
      have e2 : x = w := Option.some.inj (hf.symm.trans hp.1)
      subst e2
      exact ⟨u, by rw [List.lookup_cons, beq_self_eq_true], hp.2⟩
    · rw [show (f == k) = false from Bool.eq_false_iff.mpr fun hb => z (eq_of_beq hb)] at h
      have ne : (x == w) = false := by
        apply Bool.eq_false_iff.mpr
        intro hb
        have hb : x = w := eq_of_beq hb
        subst hb
        exact z (nmi f k x hf hp.1)
      rw [List.lookup_cons, ne]
      exact rf_get nmi hf t h
section
variable {g : G} {T : Tab} {n : Nm} {C : Calls} {L : Nat} {hx : Option Exc} {W : WX} {S : Sta} {X : Cx}
section
variable (O : CxOk g T n C L hx W S X)
include O
theorem call_run {pins : List (Addr × Obj)} {σ : L2.St} {H : Hp} {s : Shared} {Q : VK} {us : List Value} {vs : List V} {m : Mp} {st : Store} {f : Nat} {ds df : List D} (hn : hx = none) (I : Inv X pins σ H s) (S1 : SR g m H st)
    (r : RDs g m H ds vs) (rv : Vals vs us) (hd : df = [] ∨ df = n.df f) (h : C f (ds ++ df) st (Wn g m H Q) (Wx g m H (WE W σ))) : wpAny (model X.prog X.w) X.A (call (.ref (g.fa f)) us) (EP X pins σ Q) X.xe s := by
  obtain ⟨fd, ps, F, b, b2⟩ := (O.cal _ _ _ _ _ h).ok
  rw [← O.K] at F b b2
  have hr := (O.room hn).mono (Nat.le_succ _)
  rcases hd with rfl | rfl
  · exact run_at F hr b .nil O.tk I rv ⟨m, st, ds ++ [], S1, by rw [List.append_nil, List.append_nil]; exact r, h⟩
  · by_cases z : n.df f = []
    · rw [z] at h
      exact run_at F hr b .nil O.tk I rv ⟨m, st, ds ++ [], S1, by rw [List.append_nil, List.append_nil]; exact r, h⟩
    · obtain ⟨es, dvs, v1, b3, q⟩ := b2 z
      exact run_at F hr b3 v1 O.tk I rv ⟨m, st, ds ++ n.df f, S1, r.app (q m H), h⟩
theorem nil_of {as : A} {args : List Expr} (h : ckA n as S args = true) (e : args = []) : as = .nil := by
  subst e
  cases as with
  | nil => rfl
  | cons a b => cases h
theorem s_call {f : Nat} {as : A} {df : List D} {x : Str} {p pos : Pos} {args : List Expr} (h1 : n.fn f = some x) (h2 : df = [] ∨ df = n.df f) (h3 : gloB S x = true) (h4 : okN x = true) (h5 : noStars args = true) (h6 : args = [] → as = .nil)
    (ha : PA X args (rA g T C hx W as)) : PE X (.Call (.Name x p) args [] pos) (rE g T C hx W (.call f as df)) := by
  refine ⟨fun pins s σ H Q I ⟨m, env, st, SR_, ER_, hn, h⟩ => ?_⟩
  obtain ⟨hm, hk⟩ := O.top.fn f x h1
  rw [← O.K] at hk
  refine wpAny_Call_Name_kw (ld_glob I (O.gl h3) hm ?_ (okN_1 h4))
  cases args with
  | nil =>
    rw [h6 rfl] at h
    exact PySem.W.callWith_K0 I.kIn hk (call_run O (us := []) (vs := []) hn I SR_ .nil .nil h2 h)
  | cons e es =>
    have h50 : noStars (e :: es) = true := h5
    have h5 : (noStar e && noStars es) = true := h5
    rw [Bool.and_eq_true] at h5
    refine PySem.W.callWith_K (h₀ := X.base) I.ok.mod.kin hk (thn (ha.run pos pins s σ H (fun vs H1 => ∃ m1 s1 ds, SR g m1 H1 s1 ∧ RDs g m1 H1 ds vs ∧ C f (ds ++ df) s1 (Wn g m1 H1 Q) (Wx g m1 H1 (WE W σ))) I ?_) fun us s1 ⟨vs, H1, I1, r, q⟩ => ⟨I1.kIn, ?_⟩) (star_cons h5.1) (star_any h5.2)
    · exact go_A O SR_ ER_ h fun ds s1 m1 H1 vs e1 S1 E1 r1 z => ⟨m1, s1, ds, S1, r1, O.MC _ _ _ _ _ _ _ (fun d s z => Wn.ext e1 z) (fun x s z => Wx.ext e1 z) z⟩
    · obtain ⟨m1, s1, ds, S1, r1, z⟩ := q
      exact call_run O hn I1 S1 r1 r h2 z
theorem make_run {pins : List (Addr × Obj)} {σ : L2.St} {H : Hp} {s : Shared} {Q : VK} {us : List Value} {vs : List V} {m : Mp} {st : Store} {c f : Nat} {x : Str} {ds : List D} (hn : hx = none) (h1 : n.cl c = some x) (h2 : n.mk_ c = some f) (I : Inv X pins σ H s) (S1 : SR g m H st)
    (r : RDs g m H ds vs) (rv : Vals vs us) (h : C f (.ref st.length :: ds) (st ++ [.ins c []]) (fun d s2 => d = .non ∧ Wn g m H Q (.ref st.length) s2) (Wx g m H (WE W σ))) : wpAny (model X.prog X.w) X.A (call (.ref (g.ca c)) us) (EP X pins σ Q) X.xe s := by
  obtain ⟨fd, ps, F, b, b2⟩ := (O.cal _ _ _ _ _ h).ok
  have M := O.top.mk_ c f h2
  rw [← O.K] at F b b2 M
  refine make_at M F (O.room hn) b O.tk I rv fun p dx np nd ne => ?_
  have n2 : upd H dx (.own p) p = none := by rw [upd_ne ne.symm]; exact np
  have e1 : Ext m (put m st.length p) H (upd (upd H dx (.own p)) p (.ins (g.ca c) dx [])) := (ext_new nd fun _ _ z => z).trans (ext_new n2 (put_mm S1))
  have S2 := (S1.fresh (u := .own p) nd).alloc (u := .ins (g.ca c) dx []) (o := .ins c []) n2 rfl ⟨dx, [], upd_same, .nil, by rw [O.top.okc, h1]; rfl⟩
  refine ⟨put m st.length p, st ++ [.ins c []], .ref st.length :: ds, S2, .cons ⟨p, rfl, put_same⟩ (RDs.mono e1 _ _ r), O.MC _ _ _ _ _ _ _ (fun d s2 z m' H' v e2 S3 rv => ?_) (fun x s z => Wx.ext e1 z) h⟩
  obtain ⟨rfl, z⟩ := z
  cases rd_non rv
  exact ⟨rfl, z m' H' _ (e1.trans e2) S3 ⟨p, rfl, e2.mm _ _ put_same⟩⟩
theorem s_make {c f : Nat} {as : A} {x : Str} {p pos : Pos} {args : List Expr} (h1 : n.cl c = some x) (h2 : n.mk_ c = some f) (h3 : gloB S x = true) (h4 : okN x = true) (h5 : noStars args = true) (h6 : args = [] → as = .nil)
    (ha : PA X args (rA g T C hx W as)) : PE X (.Call (.Name x p) args [] pos) (rE g T C hx W (.make c f as)) := by
  refine ⟨fun pins s σ H Q I ⟨m, env, st, SR_, ER_, hn, h⟩ => ?_⟩
  obtain ⟨hm, _⟩ := O.top.cl c x h1
  have hk := (O.top.mk_ c f h2).kp
  rw [← O.K] at hk
  refine wpAny_Call_Name_kw (ld_glob I (O.gl h3) hm ?_ (okN_1 h4))
  cases args with
  | nil =>
    rw [h6 rfl] at h
    exact PySem.W.callWith_K0 I.kIn hk (make_run O (us := []) (vs := []) hn h1 h2 I SR_ .nil .nil h)
  | cons e es =>
    have h5 : (noStar e && noStars es) = true := h5
    rw [Bool.and_eq_true] at h5
    refine PySem.W.callWith_K (h₀ := X.base) I.ok.mod.kin hk (thn (ha.run pos pins s σ H (fun vs H1 => ∃ m1 s1 ds, SR g m1 H1 s1 ∧ RDs g m1 H1 ds vs ∧ C f (.ref s1.length :: ds) (s1 ++ [.ins c []]) (fun d s2 => d = .non ∧ Wn g m1 H1 Q (.ref s1.length) s2) (Wx g m1 H1 (WE W σ))) I ?_) fun us s1 ⟨vs, H1, I1, r, q⟩ => ⟨I1.kIn, ?_⟩) (star_cons h5.1) (star_any h5.2)
    · exact go_A O SR_ ER_ h fun ds s1 m1 H1 vs e1 S1 E1 r1 z => ⟨m1, s1, ds, S1, r1, O.MC _ _ _ _ _ _ _ (fun d s z => ⟨z.1, Wn.ext e1 z.2⟩) (fun x s z => Wx.ext e1 z) z⟩
    · obtain ⟨m1, s1, ds, S1, r1, z⟩ := q
      exact make_run O hn h1 h2 I1 S1 r1 r z
theorem ht_of {eo : Expr} {x : Str} {apos pos : Pos} {args : List Expr} (h2 : dotB eo = true) (h3 : (apos.endLine == pos.line) = true) (h4 : args.length < 30) (h5 : noStars args = true) :
    eval (.Call (.Attribute eo x apos) args [] pos) X.env = (do
      let ov ← eval eo X.env
      standAt apos.atName
      let (f, first) ← holding [ov] (getMethod ov x (do return (← importBound eo X.env).getD true))
      callWith pos f first (backTo pos (starEach args X.env)) (backToKw pos (keywordEach [] X.env))) := by
  rw [PySem.arm_eval_Call]
  unfold methodCall
  have few : methodCallForm (args.length + ([] : List Keyword).length) (backTo pos (starEach args X.env)) (backToKw pos (keywordEach [] X.env)) = true := by
    show ((backTo pos (starEach args X.env)).all (fun x => !x.1) && (backToKw pos (keywordEach [] X.env)).all (fun x => x.1.isSome) && decide (args.length + 0 + 0 < 30)) = true
    rw [star_len h5, decide_eq_true (by omega)]
    rfl
  rw [few, dot_base h2]
  have mp : methodCallPos true eo X.env apos pos = pure pos := by
    unfold methodCallPos
    rw [h3]
    rfl
  rw [mp]
  rfl
theorem s_meth {alts : List (Nat × Nat)} {o : E} {as : A} {eo : Expr} {x : Str} {apos pos : Pos} {args : List Expr} (h1 : (alts.all fun p => decide (n.mt p.1 p.2 = some x)) = true) (h2 : dotB eo = true) (h3 : (apos.endLine == pos.line) = true) (h4 : args.length < 30) (h5 : noStars args = true)
    (h6 : args = [] → as = .nil) (ho : PE X eo (rE g T C hx W o)) (ha : PA X args (rA g T C hx W as)) : PE X (.Call (.Attribute eo x apos) args [] pos) (rE g T C hx W (.meth alts o as)) := by
  refine ⟨fun pins s σ H Q I ⟨m, env, st, SR_, ER_, hn, h⟩ => ?_⟩
  refine PySem.W.methodCall_KW (pl := do return (← importBound eo X.env).getD true) (thn (ho.run pins s σ H (fun v H1 => ∃ (h : Nat) (a : Addr) (c f : Nat) (fs : List (Nat × D)) (m1 : Mp) (s1 : Store), v = .ref a ∧ m1 h = some a ∧ SR g m1 H1 s1 ∧ ER g m1 H1 σ env ∧ s1[h]? = some (.ins c fs) ∧ alts.lookup c = some f ∧
    wpA T C hx as env s1 (fun ds s2 => C f (.ref h :: ds) s2 (Wn g m1 H1 Q) (Wx g m1 H1 (WE W σ))) (Wx g m1 H1 (WE W σ))) I ?_) fun u s1 ⟨v, H1, I1, rx, q⟩ => ?_) (ht_of O h2 h3 h4 h5)
  · refine go_E O SR_ ER_ h fun y s1 m1 H1 v1 e1 S1 E1 r1 z => ?_
    split at z
    · split at z
      · split at z
        · obtain ⟨a, rfl, ea⟩ := rd_ref r1
          exact ⟨_, a, _, _, _, m1, s1, rfl, ea, S1, E1, by assumption, by assumption, wpA_mono O.MC as env s1 _ _ _ _ (fun ds s2 z2 => O.MC _ _ _ _ _ _ _ (fun d s z => Wn.ext e1 z) (fun x s z => Wx.ext e1 z) z2) (fun x s z => Wx.ext e1 z) z⟩
        · exact z.elim
      · exact z.elim
    · exact z.elim
  · obtain ⟨h', a, c, f, fs, m1, st1, rfl, ea, S1, E1, eh, el, z⟩ := q
    obtain rfl : u = Value.ref a := rx
    obtain ⟨dx, vs, hH, rf, okc⟩ := S1.get ea eh
    have okc2 : ∃ y, n.cl c = some y := by
      rw [O.top.okc] at okc
      exact Option.isSome_iff_exists.mp okc
    obtain ⟨y, hy⟩ := okc2
    have nf : n.mt c f = some x := by
      have mem : (c, f) ∈ alts := lookup_mem el
      exact of_decide_eq_true (List.all_eq_true.mp h1 _ mem)
    have ml : vs.lookup x = none := rf_none (fun k => by
      have z := O.top.nofd c f x k nf
      rw [← O.top.nm] at z
      exact z) rf
    have cl := (O.top.cl c y hy).2.cl
    have me := O.top.mt c f x nf
    rw [← O.K] at cl me
    refine getmeth_ok I1 hH cl me ml ?_
    cases args with
    | nil =>
      rw [h6 rfl] at z
      exact PySem.W.callWith_K0 (first := [.ref a]) I1.kIn me.kp (call_run O (us := [.ref a]) (vs := [.ref a]) (ds := [.ref h']) hn I1 S1 (.one ⟨a, rfl, ea⟩) (.cons rfl .nil) (.inl rfl) (by rw [List.append_nil]; exact z))
    | cons e es =>
      have h5 : (noStar e && noStars es) = true := h5
      rw [Bool.and_eq_true] at h5
      refine PySem.W.callWith_K (first := [.ref a]) (h₀ := X.base) I1.ok.mod.kin me.kp (thn (ha.run pos pins s1 σ H1 (fun vs H2 => ∃ m2 s2 ds, SR g m2 H2 s2 ∧ RDs g m2 H2 (.ref h' :: ds) (.ref a :: vs) ∧ C f (.ref h' :: ds) s2 (Wn g m2 H2 Q) (Wx g m2 H2 (WE W σ))) I1 ?_) fun us s2 ⟨vs, H2, I2, r, q⟩ => ⟨I2.kIn, ?_⟩) (star_cons h5.1) (star_any h5.2)
      · exact go_A O S1 E1 z fun ds s2 m2 H2 vs e2 S2 E2 r2 z2 => ⟨m2, s2, ds, S2, .cons ⟨a, rfl, e2.mm _ _ ea⟩ r2, O.MC _ _ _ _ _ _ _ (fun d s z => Wn.ext e2 z) (fun x s z => Wx.ext e2 z) z2⟩
      · obtain ⟨m2, s2, ds, S2, r2, z2⟩ := q
        exact call_run O (us := .ref a :: us) (vs := .ref a :: vs) hn I2 S2 r2 (.cons rfl r) (.inl rfl) (by rw [List.append_nil]; exact z2)
theorem fld_get {m : Mp} {H : Hp} {st : Store} {d : D} {v : V} {f : Nat} {x : Str} {R : QE} (hf : n.fd f = some x) (S1 : SR g m H st) (r : RD g m H d v) (h : fldQ st d f R) :
    ∃ a c dx fs v' dv, v = .ref a ∧ H a = some (.ins (g.ca c) dx fs) ∧ clsOf st d = some c ∧ Cls X.K (g.ca c) ∧ NoAttr X.K (g.ca c) x ∧ fs.lookup x = some v' ∧ RD g m H dv v' ∧ R dv st := by
  unfold fldQ at h
  split at h
  · split at h
    · rename_i c fs e0
      split at h
      · rename_i d' el
        obtain ⟨a, rfl, ea⟩ := rd_ref r
        obtain ⟨dx, vs, hH, rf, okc⟩ := S1.get ea e0
        have okc2 : ∃ y, n.cl c = some y := by
          rw [O.top.okc] at okc
          exact Option.isSome_iff_exists.mp okc
        obtain ⟨y, hy⟩ := okc2
        have cl := (O.top.cl c y hy).2.cl
        have na := O.top.noat c y f x hy hf
        rw [← O.K] at cl na
        have fl : ∃ v', vs.lookup x = some v' ∧ RD g m H d' v' := rf_get O.F.nmi (by rw [O.top.nm]; exact hf) rf el
        obtain ⟨v', hl, rv⟩ := fl
        exact ⟨a, c, dx, vs, v', _, rfl, hH, by unfold clsOf; dsimp only; rw [e0], cl, na, hl, rv, h⟩
      · exact h.elim
    · exact h.elim
  · exact h.elim
theorem s_fld {f : Nat} {o : E} {eo : Expr} {x : Str} {pos : Pos} (h1 : n.fd f = some x) (h2 : dotB eo = true) (ho : PE X eo (rE g T C hx W o)) : PE X (.Attribute eo x pos) (rE g T C hx W (.fld f o)) := by
  refine PE.weak (pe_fld ho (dot_base h2)) fun σ H Q ⟨m, env, st, SR_, ER_, h⟩ => ?_
  refine go_E O SR_ ER_ h fun y s1 m1 H1 v1 e1 S1 E1 r1 z => ?_
  obtain ⟨a, c, dx, fs, v', dv, q1, q2, _, q3, q4, q5, q6, q7⟩ := fld_get O h1 S1 r1 z
  exact ⟨a, _, dx, fs, v', q1, q2, q3, q4, q5, Wn.here S1 q6 (Wn.ext e1 q7)⟩
theorem a_nil : PA X [] (rA g T C hx W .nil) := PA.weak pa_nil fun σ H Q ⟨m, env, st, SR_, ER_, h⟩ => h m H [] (.refl _ _) SR_ .nil
theorem a_cons {e : E} {as : A} {x : Expr} {es : List Expr} (h1 : noStar x = true) (he : PE X x (rE g T C hx W e)) (ha : PA X es (rA g T C hx W as)) : PA X (x :: es) (rA g T C hx W (.cons e as)) := by
  refine PA.weak (pa_cons he ha (star_cons h1)) fun σ H Q ⟨m, env, st, SR_, ER_, h⟩ => ?_
  refine go_E O SR_ ER_ h fun y s1 m1 H1 v1 e1 S1 E1 r1 z => ?_
  refine go_A O S1 E1 (x_A O e1 z) fun ds s2 m2 H2 vs e2 S2 E2 r2 z2 => ?_
  exact z2 m2 H2 _ (e1.trans e2) S2 (.cons (RD.mono e2 _ _ r1) r2)
theorem s_pr {p : Pr} {as : A} {a0 : Expr} {args : List Expr} {x : Str} {pp pos : Pos} (h1 : x = prN p) (h3 : gloB S x = true) (h4 : okN x = true) (h5 : noStars (a0 :: args) = true) (ha : PA X (a0 :: args) (rA g T C hx W as)) :
    PE X (.Call (.Name x pp) (a0 :: args) [] pos) (rE g T C hx W (.pr p as)) := by
  have h5 : (noStar a0 && noStars args) = true := h5
  rw [Bool.and_eq_true] at h5
  by_cases hn : hx = none
  · have cp := call_pr O.K (O.calm hn) p
    have go : ∀ {σ H Q}, rE g T C hx W (.pr p as) σ H Q → tCB (rPr g p) (rA g T C hx W as) σ H Q := fun {σ H Q} ⟨m, env, st, SR_, ER_, _, h⟩ =>
      go_A O SR_ ER_ h fun ds s1 m1 H1 vs e1 S1 E1 r1 z => ⟨m1, s1, ds, S1, r1, prQ_mono (fun d s z => Wn.ext e1 z) z⟩
    subst h1
    cases p with
    | len => exact PE.weak (pe_callB cp (O.gl h3) (O.top.blt _ (by decide)) (show bootBuiltins "len" = some (.builtin "len") by decide +kernel) ha (by decide) (by decide) (star_cons h5.1) (star_any h5.2)) fun _ _ _ => go
    | abs => exact PE.weak (pe_callB cp (O.gl h3) (O.top.blt _ (by decide)) (show bootBuiltins "abs" = some (.builtin "abs") by decide +kernel) ha (by decide) (by decide) (star_cons h5.1) (star_any h5.2)) fun _ _ _ => go
    | max2 => exact PE.weak (pe_callB cp (O.gl h3) (O.top.blt _ (by decide)) PyProof.Rows.boot_max ha (by decide) (by decide) (star_cons h5.1) (star_any h5.2)) fun _ _ _ => go
    | min2 => exact PE.weak (pe_callB cp (O.gl h3) (O.top.blt _ (by decide)) PyProof.Rows.boot_min ha (by decide) (by decide) (star_cons h5.1) (star_any h5.2)) fun _ _ _ => go
    | any => exact PE.weak (pe_callB cp (O.gl h3) (O.top.blt _ (by decide)) (show bootBuiltins "any" = some (.builtin "any") by decide +kernel) ha (by decide) (by decide) (star_cons h5.1) (star_any h5.2)) fun _ _ _ => go
    | all => exact PE.weak (pe_callB cp (O.gl h3) (O.top.blt _ (by decide)) (show bootBuiltins "all" = some (.builtin "all") by decide +kernel) ha (by decide) (by decide) (star_cons h5.1) (star_any h5.2)) fun _ _ _ => go
    | sum => exact PE.weak (pe_callB cp (O.gl h3) (O.top.blt _ (by decide)) PyProof.Rows.boot_sum ha (by decide) (by decide) (star_cons h5.1) (star_any h5.2)) fun _ _ _ => go
    | max => exact PE.weak (pe_callB cp (O.gl h3) (O.top.blt _ (by decide)) PyProof.Rows.boot_max ha (by decide) (by decide) (star_cons h5.1) (star_any h5.2)) fun _ _ _ => go
    | min => exact PE.weak (pe_callB cp (O.gl h3) (O.top.blt _ (by decide)) PyProof.Rows.boot_min ha (by decide) (by decide) (star_cons h5.1) (star_any h5.2)) fun _ _ _ => go
    | int => exact PE.weak (pe_callTy cp (O.gl h3) (O.top.blt _ (by decide)) PyProof.Rows.boot_int ha (by decide) (by decide) (star_cons h5.1) (star_any h5.2)) fun _ _ _ => go
    | str => exact PE.weak (pe_callTy cp (O.gl h3) (O.top.blt _ (by decide)) PyProof.Rows.boot_str ha (by decide) (by decide) (star_cons h5.1) (star_any h5.2)) fun _ _ _ => go
    | tuple => exact PE.weak (pe_callTy cp (O.gl h3) (O.top.blt _ (by decide)) PyProof.Rows.boot_tuple ha (by decide) (by decide) (star_cons h5.1) (star_any h5.2)) fun _ _ _ => go
    | list => exact PE.weak (pe_callTy cp (O.gl h3) (O.top.blt _ (by decide)) PyProof.Rows.boot_list ha (by decide) (by decide) (star_cons h5.1) (star_any h5.2)) fun _ _ _ => go
    | bool => exact PE.weak (pe_callTy cp (O.gl h3) (O.top.blt _ (by decide)) PyProof.Rows.boot_bool ha (by decide) (by decide) (star_cons h5.1) (star_any h5.2)) fun _ _ _ => go
  · exact ⟨fun pins s σ H Q I ⟨_, _, _, _, _, h, _⟩ => absurd h hn⟩
theorem wpA_len : ∀ (as : A) (env : Env) (st : Store) (Q : List D → Store → Prop) (Xc : QX), wpA T C hx as env st Q Xc → wpA T C hx as env st (fun ds s => (∀ es, ckA n as S es = true → ds.length = es.length) ∧ Q ds s) Xc
  | .nil, env, st, Q, Xc, h => by
    refine ⟨fun es e => ?_, h⟩
    cases es with
    | nil => rfl
    | cons _ _ => cases e
  | .cons e as, env, st, Q, Xc, h => wpE_mono O.MC e env st _ _ _ _ (fun d s1 z => wpA_mono O.MC as env s1 _ _ _ _ (fun ds s2 z2 => ⟨fun es q => by
      cases es with
      | nil => cases q
      | cons x r =>
        have q : (ckE n e S x && ckA n as S r) = true := q
        rw [Bool.and_eq_true] at q
        rw [List.length_cons, List.length_cons, z2.1 r q.2], z2.2⟩) (fun _ _ z => z) (wpA_len as env s1 _ _ z)) (fun _ _ z => z) h
theorem s_tup {as : A} {es : List Expr} {k : Nat} {pos : Pos} (hc : ckA n as S es = true) (hz : es.length ≤ 1000) (ha : PA X es (rA g T C hx W as)) : PE X (.Tuple es k pos) (rE g T C hx W (.tup as)) := by
  refine PE.weak (pe_tup ha) fun σ H Q ⟨m, env, st, SR_, ER_, h⟩ => ?_
  refine go_A O SR_ ER_ (wpA_len O as env st _ _ h) fun ds s1 m1 H1 vs e1 S1 E1 r1 z => ⟨?_, fun p np => Wn.tup S1 np r1 (Wn.ext e1 z.2)⟩
  rw [r1.length, z.1 es hc]
  exact Nat.le_trans hz (by decide)
theorem s_lst {as : A} {es : List Expr} {pos : Pos} (hc : ckA n as S es = true) (hz : es.length ≤ 1000) (ha : PA X es (rA g T C hx W as)) : PE X (.List es pos) (rE g T C hx W (.lst as)) := by
  refine PE.weak (pe_lst ha) fun σ H Q ⟨m, env, st, SR_, ER_, h⟩ => ?_
  refine go_A O SR_ ER_ (wpA_len O as env st _ _ h) fun ds s1 m1 H1 vs e1 S1 E1 r1 z => ⟨?_, fun p np => Wn.newl S1 np (Wn.ext e1 z.2) r1⟩
  rw [r1.length, z.1 es hc]
  exact Nat.le_trans hz (by decide)
theorem me_ty {m' : Me} {m : Mp} {H : Hp} {st : Store} {d : D} {v : V} (S1 : SR g m H st) (r : RD g m H d v) (h : meOk m' st d) : L2.tyV X.K (meI m').1 v H := by
  unfold meOk at h
  split at h
  · cases rd_str r
    show (meI m').1 = "str"
    cases m' <;> first | rfl | cases h
  · obtain ⟨a, rfl, ea⟩ := rd_ref r
    split at h
    · rename_i e0
      obtain ⟨vs, hq, _⟩ := S1.sqL ea (.inl e0)
      rw [← O.K] at hq
      refine .inl ⟨?_, vs, hq⟩
      cases m' <;> first | rfl | cases h
    · rename_i e0
      have q := S1.get ea e0
      refine .inr (.inr (.inl ⟨?_, ?_⟩))
      · cases m' <;> first | rfl | cases h
      · rcases q with ⟨ps, h1, _⟩ | ⟨ps, h1, _⟩
        · exact .inl ⟨ps, h1⟩
        · exact .inr ⟨ps, h1⟩
    · exact h.elim
  · exact h.elim
theorem few_of {e : Expr} {es : List Expr} {pos : Pos} (h4 : (e :: es).length < 30) (h5 : noStars (e :: es) = true) : ((backTo pos (starEach (e :: es) X.env)).all (fun x => !x.1) && (backToKw pos (keywordEach [] X.env)).all (fun x => x.1.isSome)
      && decide ((e :: es).length + ([] : List Keyword).length + (if ([] : List Keyword).isEmpty then 0 else 1) < 30)) = true := by
  rw [star_len h5]
  show (true && true && decide ((e :: es).length + 0 + 0 < 30)) = true
  rw [decide_eq_true (by omega)]
  rfl
theorem s_me {m' : Me} {o : E} {as : A} {eo : Expr} {x : Str} {apos pos : Pos} {args : List Expr} (h1 : x = (meI m').2.2) (h2 : dotB eo = true) (h3 : (apos.endLine == pos.line) = true) (h4 : args.length < 30) (h5 : noStars args = true)
    (h6 : args = [] → as = .nil) (ho : PE X eo (rE g T C hx W o)) (ha : PA X args (rA g T C hx W as)) : PE X (.Call (.Attribute eo x apos) args [] pos) (rE g T C hx W (.me m' o as)) := by
  have facts : PlainAttrs (meI m').1 ∧ Slot (meI m').1 (meI m').2.2 (meI m').2.1 ∧ typeOf (.builtin (meI m').2.1) = pure (.type "method_descriptor") := by
    cases m'
    · exact ⟨PySem.F.plainAttrs_list, PySem.F.slot_list_append, PySem.F.type_list_append⟩
    · exact ⟨PySem.F.plainAttrs_list, PySem.F.slot_list_pop, PySem.F.type_list_pop⟩
    · exact ⟨PySem.F.plainAttrs_list, PySem.F.slot_list_pop, PySem.F.type_list_pop⟩
    · exact ⟨PySem.F.plainAttrs_list, PySem.F.slot_list_insert, PySem.F.type_list_insert⟩
    · exact ⟨PySem.F.plainAttrs_list, PySem.F.slot_list_extend, PySem.F.type_list_extend⟩
    · exact ⟨PySem.F.plainAttrs_list, PySem.F.slot_list_reverse, PySem.F.type_list_reverse⟩
    · exact ⟨PySem.F.plainAttrs_list, PySem.F.slot_list_clear, PySem.F.type_list_clear⟩
    · exact ⟨PySem.F.plainAttrs_list, PySem.F.slot_list_index, PySem.F.type_list_index⟩
    · exact ⟨PySem.F.plainAttrs_dict, PySem.F.slot_dict_get, PySem.F.type_dict_get⟩
    · exact ⟨PySem.F.plainAttrs_dict, PySem.F.slot_dict_get, PySem.F.type_dict_get⟩
    · exact ⟨PySem.F.plainAttrs_dict, PySem.F.slot_dict_setdefault, PySem.F.type_dict_setdefault⟩
    · exact ⟨PySem.F.plainAttrs_str, PySem.F.slot_str_split, PySem.F.type_str_split⟩
    · exact ⟨PySem.F.plainAttrs_str, PySem.F.slot_str_join, PySem.F.type_str_join⟩
  obtain ⟨f1, f2, f3⟩ := facts
  subst h1
  cases args with
  | nil =>
    refine PE.weak (pe_bm0 f1 f2 f3 (mt_me O.K m') ho (dot_base h2) h3) fun σ H Q ⟨m, env, st, SR_, ER_, h⟩ => ?_
    rw [h6 rfl] at h
    exact go_E O SR_ ER_ h fun y s1 m1 H1 v1 e1 S1 E1 r1 z => ⟨me_ty O S1 r1 z.1, m1, s1, y, [], S1, r1, .nil, meQ_mono (fun d s z => Wn.ext e1 z) z.2⟩
  | cons e es =>
    have h50 := h5
    have h5 : (noStar e && noStars es) = true := h5
    rw [Bool.and_eq_true] at h5
    refine PE.weak (pe_bm f1 f2 f3 (mt_me O.K m') ho ha (dot_base h2) (few_of O h4 h50) h3 (star_cons h5.1) (star_any h5.2)) fun σ H Q ⟨m, env, st, SR_, ER_, h⟩ => ?_
    refine go_E O SR_ ER_ h fun y s1 m1 H1 v1 e1 S1 E1 r1 z => ⟨me_ty O S1 r1 z.1, ?_⟩
    exact go_A O S1 E1 (x_A O e1 z.2) fun ds s2 m2 H2 vs e2 S2 E2 r2 z2 => ⟨m2, s2, y, ds, S2, RD.mono e2 _ _ r1, r2, meQ_mono (fun d s z => Wn.ext (e1.trans e2) z) z2⟩
theorem s_idx {a b : E} {ea eb : Expr} {pos : Pos} (h1 : ixB eb = true) (ha : PE X ea (rE g T C hx W a)) (hb : PE X eb (rE g T C hx W b)) : PE X (.Subscript ea eb pos) (rE g T C hx W (.idx a b)) := by
  refine PE.weak (pe_ix (ix_any O.F O.K) ha hb (ix_plain h1)) fun σ H Q ⟨m, env, st, SR_, ER_, h⟩ => ?_
  refine go_E O SR_ ER_ h fun x s1 m1 H1 v1 e1 S1 E1 r1 h1 => ?_
  refine go_E O S1 E1 (x_E O e1 h1) fun y s2 m2 H2 v2 e2 S2 E2 r2 h2 => ?_
  exact ⟨m2, s2, x, y, S2, RD.mono e2 _ _ r1, r2, idxQ_mono (fun d s z => Wn.ext (e1.trans e2) z) h2⟩
def rO (g : G) (T : Tab) (C : Calls) (hx : Option Exc) (W : WX) (lo : E) : TO := fun σ H Q => ∃ (m : Mp) (env : Env) (st : Store), SR g m H st ∧ ER g m H σ env ∧ wpE T C hx lo env st (fun l s => partQ l fun l' => ∀ m' H', Ext m m' H H' → SR g m' H' s → Q l' H') (Wx g m H (WE W σ))
theorem o_some {lo : E} {el : Expr} (h : PE X el (rE g T C hx W lo)) : PO X (some el) (rO g T C hx W lo) := by
  refine ⟨fun pins s σ H Q I ⟨m, env, st, SR_, ER_, hw⟩ => ?_⟩
  rw [evalPart_some]
  refine thn (h.run pins s σ H (fun x H1 => (∃ i, x = .int i ∧ Q (some i) H1) ∨ (x = .non ∧ Q none H1)) I ?_) fun u s1 ⟨x, H1, I1, r1, q1⟩ => ?_
  · refine go_E O SR_ ER_ hw fun y s1 m1 H1 v1 e1 S1 E1 r1 z => ?_
    unfold partQ at z
    split at z
    · cases rd_int r1
      exact .inl ⟨_, rfl, z m1 H1 e1 S1⟩
    · cases rd_non r1
      exact .inr ⟨rfl, z m1 H1 e1 S1⟩
    · exact z.elim
  · rcases q1 with ⟨i, rfl, q⟩ | ⟨rfl, q⟩
    · obtain ⟨t, rfl⟩ := r1
      exact ⟨some i, H1, I1, .int i t, q⟩
    · cases (show u = Value.none from r1)
      exact ⟨none, H1, I1, .none, q⟩
theorem o_none : PO X none (rO g T C hx W .abs0) := by
  refine ⟨fun pins s σ H Q I ⟨m, env, st, SR_, ER_, hw⟩ => ?_⟩
  exact po_none.run pins s σ H Q I (hw m H (.refl _ _) SR_)
theorem s_sli {a lo hi : E} {ea : Expr} {el eh : Option Expr} {pos p2 : Pos} (ha : PE X ea (rE g T C hx W a)) (hl : PO X el (rO g T C hx W lo)) (hh : PO X eh (rO g T C hx W hi)) : PE X (.Subscript ea (.Slice el eh none p2) pos) (rE g T C hx W (.sli a lo hi)) := by
  refine PE.weak (pe_slice (sl_any O.K) ha hl hh) fun σ H Q ⟨m, env, st, SR_, ER_, h⟩ => ?_
  refine go_E O SR_ ER_ h fun x s1 m1 H1 v1 e1 S1 E1 r1 h1 => ?_
  refine ⟨m1, env, s1, S1, E1, wpE_mono O.MC lo env s1 _ _ _ _ (fun l s2 z => partQ_mono (fun l' z m2 H2 e2 S2 => ?_) z) (fun _ _ z => Wx.ext e1 z) h1⟩
  refine ⟨m2, env, s2, S2, E1.mono e2, wpE_mono O.MC hi env s2 _ _ _ _ (fun u s3 z => partQ_mono (fun u' z m3 H3 e3 S3 => ?_) z) (fun _ _ z => Wx.ext (e1.trans e2) z) z⟩
  exact ⟨m3, s3, x, S3, RD.mono (e2.trans e3) _ _ r1, sliQ_mono (fun d s z => Wn.ext ((e1.trans e2).trans e3) z) z⟩
inductive QF (X : Cx) (R : E → TE) : List Expr → A → Prop where
  | nil : QF X R [] .nil
  | fmt {e : E} {as : A} {x : Expr} {es : List Expr} {p : Pos} (h : PE X x (R e)) (t : QF X R es as) : QF X R (.FormattedValue x (-1) none p :: es) (.cons e as)
  | con {y : List Nat} {as : A} {k : Nat} {p : Pos} {es : List Expr} (t : QF X R es as) : QF X R (.Constant (.str ⟨y.toArray⟩) k p :: es) (.cons (.con (.str y)) as)
theorem f_run {es : List Expr} {as : A} (h : QF X (rE g T C hx W) es as) : ∃ ts, PJ X es ts ∧ ∀ (acc : List Nat) (σ : L2.St) (H : Hp) (m : Mp) (env : Env) (st : Store) (Q : VK), SR g m H st → ER g m H σ env →
    wpF T C hx as env st acc (fun y s1 => Wn g m H Q (.str y) s1) (Wx g m H (WE W σ)) → tJs ts ⟨acc.toArray⟩ σ H fun out H1 => Q (.str out) H1 := by
  induction h with
  | nil => exact ⟨[], .nil, fun acc σ H m env st Q S1 E1 z => Wn.str S1 z⟩
  | @fmt e as x es p h t ih =>
    obtain ⟨ts, j, k⟩ := ih
    refine ⟨_ :: ts, .cons (pe_fmt h) j, fun acc σ H m env st Q S1 E1 z => ?_⟩
    refine go_E O S1 E1 z fun d s1 m1 H1 v e1 S2 E2 r z => ?_
    have nxt : ∀ y : List Nat, (acc ++ y).length ≤ line → wpF T C hx as env s1 (acc ++ y) (fun y s1 => Wn g m H Q (.str y) s1) (Wx g m H (WE W σ)) → ∃ w : Str, V.str ⟨y.toArray⟩ = .str w ∧ ((⟨acc.toArray⟩ : Str) ++ w).length ≤ sizeLine ∧ tJs ts ((⟨acc.toArray⟩ : Str) ++ w) σ H1 fun out H1 => Q (.str out) H1 := fun y l z => by
      refine ⟨⟨y.toArray⟩, rfl, ?_, ?_⟩
      · rw [str_app, str_len]
        exact l
      · rw [str_app]
        exact k (acc ++ y) σ H1 m1 env s1 Q S2 E2 (wpF_mono O.MC as env s1 _ _ _ _ _ (fun y s z => Wn.ext e1 z) (fun _ _ z => Wx.ext e1 z) z)
    unfold fmtQ at z
    split at z
    · cases rd_str r
      exact .inl ⟨_, rfl, by rw [str_len]; exact z.1, nxt _ z.2.1 z.2.2⟩
    · cases rd_int r
      refine .inr ⟨_, rfl, z.1, ?_⟩
      have q := nxt _ z.2.1 z.2.2
      unfold decI at q
      rw [str_codes] at q
      exact q
    · exact z.elim
  | @con y as kk p es t ih =>
    obtain ⟨ts, j, k⟩ := ih
    refine ⟨_ :: ts, .cons pe_str j, fun acc σ H m env st Q S1 E1 z => ?_⟩
    have z : y.length ≤ line ∧ (acc ++ y).length ≤ line ∧ wpF T C hx as env st (acc ++ y) (fun y s1 => Wn g m H Q (.str y) s1) (Wx g m H (WE W σ)) := z
    refine ⟨⟨y.toArray⟩, rfl, ?_, ?_⟩
    · rw [str_app, str_len]
      exact z.2.1
    · rw [str_app]
      exact k (acc ++ y) σ H m env st Q S1 E1 z.2.2
theorem s_fstr {as : A} {x y : Expr} {r : List Expr} {pos : Pos} (h : QF X (rE g T C hx W) (x :: y :: r) as) : PE X (.JoinedStr (x :: y :: r) pos) (rE g T C hx W (.fstr as)) := by
  obtain ⟨ts, j, k⟩ := f_run O h
  exact PE.weak (pe_joined j) fun σ H Q ⟨m, env, st, SR_, ER_, h⟩ => k [] σ H m env st Q SR_ ER_ h
end
end
end Y
set_option linter.all false
set_option maxHeartbeats 4000000
set_option maxRecDepth 100000
namespace Y
open PySem PySem.Spec PyProof.Rows L2 RZ
def tyVv (g : G) : Ty → V
  | .int => .ty "int" | .str => .ty "str" | .bool => .ty "bool" | .tuple => .ty "tuple" | .list => .ty "list" | .dict => .ty "dict"
  | .own c => .ref (g.ca c)
theorem clsV_of (g : G) (t : Ty) : ClsV (tyVv g t) (tyV1 g t) := by
  cases t <;> first | exact .ty _ | exact .own _
theorem clsVs_of (g : G) : ∀ ts : List Ty, Paired ClsV (ts.map (tyVv g)) (ts.map (tyV1 g))
  | [] => .nil
  | t :: ts => .cons (clsV_of g t) (clsVs_of g ts)
def tySs : Option Ty → String
  | some .int => "int" | some .str => "str" | some .bool => "bool" | some .tuple => "tuple" | some .list => "list" | some .dict => "dict"
  | _ => "NoneType"
def isTyB : Option Ty → Ty → Bool
  | none, _ => false
  | some .bool, t => decide (t = .bool) || decide (t = .int)
  | some a, t => decide (a = t)
theorem kit_bb (K : PySem.W.Frag) (T : Tab) (g : G) (a : Option Ty) (t : Ty) (ha : ∀ c, a ≠ some (.own c)) (ht : ∀ c, t ≠ .own c) : PySem.W.kitOne K (.type (tySs a)) (tyV1 g t) = some (isTy T a t) := by
  have k : kitB (tySs a) (tySs (some t)) = some (isTyB a t) := by
    cases a with
    | none => cases t <;> first | decide +kernel | exact absurd rfl (ht _)
    | some a => cases a <;> first
      | exact absurd rfl (ha _)
      | (cases t <;> first | decide +kernel | exact absurd rfl (ht _))
  have e : isTy T a t = isTyB a t := by
    cases a with
    | none => rfl
    | some a => cases a <;> first
      | exact absurd rfl (ha _)
      | rfl
  have v : tyV1 g t = .type (tySs (some t)) := by
    cases t <;> first | rfl | exact absurd rfl (ht _)
  rw [e, v]
  exact kit_ty k
section
variable {g : G} {T : Tab} {n : Nm} {C : Calls} {L : Nat} {hx : Option Exc} {W : WX} {S : Sta} {X : Cx}
section
variable (O : CxOk g T n C L hx W S X)
include O
def okTy (n : Nm) (t : Ty) : Prop := ∀ c, t = .own c → (n.cl c).isSome = true
theorem kit_b (a : Option Ty) (t : Ty) (ha : ∀ c, a ≠ some (.own c)) (ht : okTy n t) : PySem.W.kitOne X.K (.type (tySs a)) (tyV1 g t) = some (isTy T a t) := by
  by_cases z : ∃ c, t = .own c
  · obtain ⟨c, rfl⟩ := z
    obtain ⟨y, hy⟩ := Option.isSome_iff_exists.mp (ht c rfl)
    have mem : tySs a ∈ ["NoneType", "bool", "int", "str", "tuple", "list", "dict"] := by
      cases a with
      | none => decide
      | some a => cases a <;> first | decide | exact absurd rfl (ha _)
    have q := O.top.kit2 c y (tySs a) hy mem
    rw [O.K]
    refine q.trans ?_
    cases a with
    | none => rfl
    | some a => cases a <;> first | rfl | exact absurd rfl (ha _)
  · exact kit_bb X.K T g a t ha fun c e => z ⟨c, e⟩
theorem ty_val {m : Mp} {H : Hp} {st : Store} {d : D} {v : V} (S1 : SR g m H st) (r : RD g m H d v) (h : hasTy st d = true) : ∃ t, TyX X.K H v t ∧ ∀ ty, okTy n ty → PySem.W.kitOne X.K t (tyV1 g ty) = some (isTy T (tyOf st d) ty) := by
  cases d with
  | non => cases rd_non r; exact ⟨_, .base .non, fun ty h => kit_b O none ty (fun c e => nomatch e) h⟩
  | bl b => cases rd_bl r; exact ⟨_, .base (.bl b), fun ty h => kit_b O (some .bool) ty (fun c e => nomatch e) h⟩
  | int i => cases rd_int r; exact ⟨_, .base (.int i), fun ty h => kit_b O (some .int) ty (fun c e => nomatch e) h⟩
  | str x => cases rd_str r; exact ⟨_, .base (.str _), fun ty h => kit_b O (some .str) ty (fun c e => nomatch e) h⟩
  | tup ds =>
    obtain ⟨a, vs, rfl, hq, _⟩ := rd_tup r
    refine ⟨.type "tuple", ?_, fun ty h => kit_b O (some .tuple) ty (fun c e => nomatch e) h⟩
    rw [← O.K] at hq
    rcases hq with (e | ⟨o, e⟩) | e
    · exact .base (.tup e)
    · exact .fTuple e
    · obtain ⟨o, its, _, hk, hc, _⟩ := e
      exact .kTuple hk hc
  | kon k => cases h
  | ref h' =>
    obtain ⟨a, rfl, ea⟩ := rd_ref r
    cases e0 : st[h']? with
    | none =>
      have h : (st[h']?).isSome = true := h
      rw [e0] at h
      cases h
    | some o =>
      have ro := S1.get ea e0
      have ty0 : tyOf st (.ref h') = (match o with
        | .lst _ => some Ty.list
        | .fro _ => some Ty.list
        | .dic _ => some Ty.dict
        | .ins c _ => some (Ty.own c)) := by
        unfold tyOf
        simp only [e0]
        cases o <;> rfl
      rw [ty0]
      cases o with
      | lst ds =>
        obtain ⟨vs, e, _⟩ := ro
        exact ⟨_, .base (.lst e), fun ty h => kit_b O (some .list) ty (fun c e => nomatch e) h⟩
      | fro ds =>
        obtain ⟨vs, e, _⟩ := ro
        refine ⟨.type "list", ?_, fun ty h => kit_b O (some .list) ty (fun c e => nomatch e) h⟩
        rcases e with ⟨o, e⟩ | ⟨o, its, _, hk, hc, _⟩
        · exact .base (.frz e)
        · exact .kList (by rw [O.K]; exact hk) hc
      | dic kvs =>
        refine ⟨.type "dict", ?_, fun ty h => kit_b O (some .dict) ty (fun c e => nomatch e) h⟩
        rcases ro with ⟨ps, e, _⟩ | ⟨ps, e, _⟩
        · exact .base (.dK e)
        · exact .base (.dT e)
      | ins c fs =>
        obtain ⟨dx, vs, e, _, okc⟩ := ro
        rw [O.top.okc] at okc
        obtain ⟨y, hy⟩ := Option.isSome_iff_exists.mp okc
        have ca := (O.top.cl c y hy).2
        rw [← O.K] at ca
        refine ⟨.ref (g.ca c), .base (.ins e ca.cl ca.ha ca.hn ca.htk ca.hm), fun ty h => ?_⟩
        rw [O.K]
        exact O.top.kit c y ty hy h
theorem kits {t : Value} {a : Option Ty} (h : ∀ ty, okTy n ty → PySem.W.kitOne X.K t (tyV1 g ty) = some (isTy T a ty)) : ∀ ts : List Ty, (∀ t ∈ ts, okTy n t) → PySem.W.kitAny X.K t (ts.map (tyV1 g)) = some (ts.any fun ty => isTy T a ty)
  | [], _ => rfl
  | ty :: ts, k => by
    refine kitAny_cons (h ty (k ty List.mem_cons_self)) (b := isTy T a ty) (fun e => ?_) fun e => ?_
    · rw [List.any_cons, e, Bool.false_or]
      exact kits h ts fun t m => k t (List.mem_cons_of_mem _ m)
    · rw [List.any_cons, e, Bool.true_or]
theorem ckTy_ok {t : Ty} {e : Expr} (h : ckTy n S t e = true) : okTy n t ∧ noStar e = true ∧ PE X e (tC (tyVv g t)) := by
  unfold ckTy at h
  split at h
  · rename_i x p
    rw [Bool.and_eq_true, Bool.and_eq_true] at h
    obtain ⟨⟨h1, h2⟩, h3⟩ := h
    refine ⟨?_, rfl, ?_⟩
    · intro c e
      subst e
      have h3 : decide (n.cl c = some x) = true := h3
      rw [of_decide_eq_true h3]
      rfl
    · cases t with
      | own c => exact pe_glob (O.gl h1) (O.top.cl c x (of_decide_eq_true h3)).1 rfl (okN_1 h2)
      | int => cases (of_decide_eq_true h3 : tyN .int = some x); exact pe_bltn (O.gl h1) (O.top.blt _ (by decide)) PyProof.Rows.boot_int rfl
      | str => cases (of_decide_eq_true h3 : tyN .str = some x); exact pe_bltn (O.gl h1) (O.top.blt _ (by decide)) PyProof.Rows.boot_str rfl
      | bool => cases (of_decide_eq_true h3 : tyN .bool = some x); exact pe_bltn (O.gl h1) (O.top.blt _ (by decide)) PyProof.Rows.boot_bool rfl
      | tuple => cases (of_decide_eq_true h3 : tyN .tuple = some x); exact pe_bltn (O.gl h1) (O.top.blt _ (by decide)) PyProof.Rows.boot_tuple rfl
      | list => cases (of_decide_eq_true h3 : tyN .list = some x); exact pe_bltn (O.gl h1) (O.top.blt _ (by decide)) PyProof.Rows.boot_list rfl
      | dict => cases (of_decide_eq_true h3 : tyN .dict = some x); exact pe_bltn (O.gl h1) (O.top.blt _ (by decide)) PyProof.Rows.boot_dict rfl
  · cases h
theorem ckTys_ok : ∀ {ts : List Ty} {cs : List Expr}, cs.length = ts.length → ((ts.zip cs).all fun p => ckTy n S p.1 p.2) = true → (∀ t ∈ ts, okTy n t) ∧ noStars cs = true ∧ PA X cs (fun σ H Q => Q (ts.map (tyVv g)) H)
  | [], [], _, _ => ⟨(fun t m => absurd m (by simp)), rfl, PA.weak pa_nil fun _ _ _ h => h⟩
  | t :: ts, c :: cs, l, h => by
    rw [List.zip_cons_cons, List.all_cons, Bool.and_eq_true] at h
    obtain ⟨o1, s1, p1⟩ := ckTy_ok O h.1
    obtain ⟨o2, s2, p2⟩ := ckTys_ok (Nat.succ.inj l) h.2
    refine ⟨fun x m => ?_, ?_, PA.weak (pa_cons p1 p2 (star_cons s1)) fun _ _ _ h => h⟩
    · cases m with
      | head => exact o1
      | tail _ m => exact o2 x m
    · show (noStar c && noStars cs) = true
      rw [s1, s2]
      rfl
theorem boot_isi : bootBuiltins "isinstance" = some (.builtin "isinstance") := by decide +kernel
theorem s_isi1 {a : E} {t : Ty} {ea ec : Expr} {x : Str} {p pos : Pos} (h1 : x = "isinstance") (h2 : gloB S x = true) (h3 : noStar ea = true) (h4 : ckTy n S t ec = true) (ha : PE X ea (rE g T C hx W a)) :
    PE X (.Call (.Name x p) [ea, ec] [] pos) (rE g T C hx W (.isi a [t])) := by
  subst h1
  obtain ⟨o1, s1, p1⟩ := ckTy_ok O h4
  refine PE.weak (pe_callB call_isi (O.gl h2) (O.top.blt _ (by decide)) (boot_isi O) (pa_cons ha (pa_cons p1 pa_nil (star_cons s1)) (star_cons h3)) (by decide) (by decide) (star_cons h3) (star_any (show (noStar ec && true) = true by rw [s1]; rfl))) fun σ H Q ⟨m, env, st, SR_, ER_, h⟩ => ?_
  refine go_E O SR_ ER_ h fun y s1 m1 H1 v1 e1 S1 E1 r1 z => ?_
  obtain ⟨tv, ty, k⟩ := ty_val O S1 r1 z.1
  refine ⟨v1, _, tv, _, _, rfl, clsV_of g t, ty, k t o1, ?_⟩
  have z2 := z.2
  rw [List.any_cons, List.any_nil, Bool.or_false] at z2
  exact Wn.bl S1 (Wn.ext e1 z2)
theorem s_isiT {a : E} {ts : List Ty} {ea : Expr} {cs : List Expr} {k : Nat} {x : Str} {p pos p2 : Pos} (h1 : x = "isinstance") (h2 : gloB S x = true) (h3 : noStar ea = true) (h4 : cs.length = ts.length) (h5 : ((ts.zip cs).all fun p => ckTy n S p.1 p.2) = true) (h6 : ts.length ≤ 1000)
    (ha : PE X ea (rE g T C hx W a)) : PE X (.Call (.Name x p) [ea, .Tuple cs k p2] [] pos) (rE g T C hx W (.isi a ts)) := by
  subst h1
  obtain ⟨o1, s1, p1⟩ := ckTys_ok O h4 h5
  refine PE.weak (pe_callB call_isiT (O.gl h2) (O.top.blt _ (by decide)) (boot_isi O) (pa_cons ha (pa_cons (pe_tup p1) pa_nil (star_cons rfl)) (star_cons h3)) (by decide) (by decide) (star_cons h3) (star_any rfl)) fun σ H Q ⟨m, env, st, SR_, ER_, h⟩ => ?_
  refine go_E O SR_ ER_ h fun y s1 m1 H1 v1 e1 S1 E1 r1 z => ⟨?_, fun p np => ?_⟩
  · rw [List.length_map]
    exact Nat.le_trans h6 (by decide)
  · have e2 : Ext m1 m1 H1 (upd H1 p (.tup (ts.map (tyVv g)))) := ext_new np fun _ _ z => z
    have S2 := S1.fresh (u := .tup (ts.map (tyVv g))) np
    obtain ⟨tv, ty, k⟩ := ty_val O S2 (RD.mono e2 _ _ r1) z.1
    exact ⟨v1, p, ts.map (tyVv g), tv, ts.map (tyV1 g), _, rfl, upd_same, clsVs_of g ts, ty, kits O k ts o1, Wn.bl S2 (Wn.ext (e1.trans e2) z.2)⟩
def JR (g : G) (m : Mp) (H : Hp) (j : J) (J0 : It) : Prop := ∀ (m' : Mp) (H' : Hp) (st' : Store) (i : Nat), Ext m m' H H' → SR g m' H' st' →
  (j.at i st' = some none → J0.stop i H') ∧ ∀ d, j.at i st' = some (some d) → J0.go i H' ∧ ∀ x H2, J0.yld i H' x H2 → Ext m' m' H' H2 ∧ SR g m' H2 st' ∧ RD g m' H2 d x
omit O in
theorem JR.ext {m m' : Mp} {H H' : Hp} {j : J} {J0 : It} (e : Ext m m' H H') (h : JR g m H j J0) : JR g m' H' j J0 := fun m2 H2 st i e2 S2 => h m2 H2 st i (e.trans e2) S2
def rI (g : G) (T : Tab) (C : Calls) (hx : Option Exc) (W : WX) (it : E) : TI := fun σ H R => ∃ (m : Mp) (env : Env) (st : Store), SR g m H st ∧ ER g m H σ env ∧
  wpI T C hx it env st (fun j s => ∀ m' H' J0, Ext m m' H H' → SR g m' H' s → JR g m' H' j J0 → R J0 H') (Wx g m H (WE W σ))
theorem PI.weak {tg it : Expr} {t t' : TI} (h : PI X tg it t) (w : ∀ σ H R, t' σ H R → t σ H R) : PI X tg it t' := ⟨fun pins s σ H R I q => h.run pins s σ H R I (w σ H R q)⟩
omit O in
theorem jr_range {m : Mp} {H : Hp} (lo : Int) (k : Nat) : JR g m H (.seq (rngD lo k)) (Itr lo k) := by
  intro m' H' st i e S1
  have at_ : (J.seq (rngD lo k)).at i st = some ((rngD lo k)[i]?) := rfl
  rw [at_]
  unfold rngD
  rw [List.getElem?_map]
  refine ⟨fun h => ?_, fun d h => ?_⟩
  · by_cases l : i < k
    · rw [List.getElem?_range l] at h
      cases h
    · exact Nat.le_of_not_lt l
  · by_cases l : i < k
    · rw [List.getElem?_range l] at h
      cases h
      exact ⟨l, fun x H2 ⟨a, b⟩ => by subst a b; exact ⟨.refl _ _, S1, rfl⟩⟩
    · rw [List.getElem?_eq_none (by simpa using Nat.le_of_not_lt l)] at h
      cases h
theorem i_rng1 {tg ea : Expr} {a : E} {x : Str} {p pos : Pos} (h1 : x = "range") (h2 : gloB S x = true) (h3 : noStar ea = true) (ha : PE X ea (rE g T C hx W a)) : PI X tg (.Call (.Name x p) [ea] [] pos) (rI g T C hx W (.rng1 a)) := by
  subst h1
  refine PI.weak O (pi_range1 (O.gl h2) (O.top.blt _ (by decide)) (a_cons O h3 ha (a_nil O)) (star_cons h3)) fun σ H R ⟨m, env, st, SR_, ER_, h⟩ => ?_
  refine go_A O SR_ ER_ (R := fun ds s1 => ∃ x, ds = [x] ∧ match x with
    | .int n => -(2 ^ 62) ≤ n ∧ n < 2 ^ 62 ∧ ∀ m' H' J0, Ext m m' H H' → SR g m' H' s1 → JR g m' H' (.seq (rngD 0 n.toNat)) J0 → R J0 H'
    | _ => False) (wpE_mono O.MC a env st _ _ _ _ (fun d s z => ⟨d, rfl, z⟩) (fun _ _ z => z) h) fun ds s1 m1 H1 vs e1 S1 E1 r1 ⟨x, ex, z⟩ => ?_
  subst ex
  obtain ⟨v, rfl, rv⟩ := r1.un1
  split at z
  · cases rd_int rv
    exact ⟨_, rfl, z.1, z.2.1, z.2.2 m1 H1 _ e1 S1 (jr_range 0 _)⟩
  · exact z.elim
theorem i_rng2 {tg ea eb : Expr} {a b : E} {x : Str} {p pos : Pos} (h1 : x = "range") (h2 : gloB S x = true) (h3 : noStar ea = true) (h4 : noStar eb = true) (ha : PE X ea (rE g T C hx W a)) (hb : PE X eb (rE g T C hx W b)) :
    PI X tg (.Call (.Name x p) [ea, eb] [] pos) (rI g T C hx W (.rng2 a b)) := by
  subst h1
  refine PI.weak O (pi_range2 (O.gl h2) (O.top.blt _ (by decide)) (a_cons O h3 ha (a_cons O h4 hb (a_nil O))) (by rw [star_cons h3, star_cons h4]; rfl) (star_cons h4)) fun σ H R ⟨m, env, st, SR_, ER_, h⟩ => ?_
  refine go_A O SR_ ER_ (R := fun ds s1 => ∃ x y, ds = [x, y] ∧ match x, y with
    | .int m0, .int n => (-(2 ^ 62) ≤ m0 ∧ m0 < 2 ^ 62 ∧ -(2 ^ 62) ≤ n ∧ n < 2 ^ 62) ∧ ∀ m' H' J0, Ext m m' H H' → SR g m' H' s1 → JR g m' H' (.seq (rngD m0 (n - m0).toNat)) J0 → R J0 H'
    | _, _ => False) (wpE_mono O.MC a env st _ _ _ _ (fun d s z => wpE_mono O.MC b env s _ _ _ _ (fun d2 s z => ⟨d, d2, rfl, z⟩) (fun _ _ z => z) z) (fun _ _ z => z) h) fun ds s1 m1 H1 vs e1 S1 E1 r1 ⟨x, y, ex, z⟩ => ?_
  subst ex
  obtain ⟨v, w, rfl, rv, rw'⟩ := r1.two
  split at z
  · cases rd_int rv
    cases rd_int rw'
    exact ⟨_, _, rfl, z.1, z.2 m1 H1 _ e1 S1 (jr_range _ _)⟩
  · exact z.elim
def iSeq (K : PySem.W.Frag) (te : TE) : TI := fun σ H R => te σ H fun x H1 => (∃ a xs, x = .ref a ∧ SqL K H1 a xs ∧ R (Itl K a) H1) ∨ (∃ a xs, x = .ref a ∧ SqT K H1 a xs ∧ R (Itt K a) H1) ∨ ∃ z, x = .str z ∧ R (Its z) H1
theorem pi_seq {tg l : Expr} {tl : TE} (hl : PE X l tl) : PI X tg l (iSeq X.K tl) := by
  refine ⟨fun pins s σ H R I h => ?_⟩
  refine thn (hl.run pins s σ H _ I h) fun v s1 ⟨x, H1, I1, r1, q1⟩ => ?_
  rcases q1 with ⟨a, xs, rfl, hq, q⟩ | ⟨a, xs, rfl, hq, q⟩ | ⟨z, rfl, q⟩
  · cases r1
    obtain ⟨its, rv, p, hz⟩ := I1.list hq
    exact wpAny_pyIter_list p.isList (pi_one (tk := s1.toks) I1 _ (turn_list a _) ⟨_, Heap.get?_push_size _ rfl, rfl, rfl⟩ q)
  · cases r1
    obtain ⟨its, rv, p, hz⟩ := I1.tuple hq
    exact wpAny_pyIter_tuple (show s1.heap.IsTuple a its.toArray from p) (pi_one (tk := s1.toks) I1 _ (turn_tuple a _) ⟨_, Heap.get?_push_size _ rfl, rfl, rfl⟩ q)
  · obtain ⟨t, rfl⟩ := r1
    cases ha : z.cps.all (· < 128)
    · exact wpAny_pyIter_wide ha (pi_one (tk := s1.toks) I1 _ (turn_str _ z t "str_iterator" (.inr rfl)) ⟨_, Heap.get?_push_size _ rfl, rfl, rfl⟩ q)
    · exact wpAny_pyIter_ascii ha (pi_one (tk := s1.toks) I1 _ (turn_str _ z t "str_ascii_iterator" (.inl rfl)) ⟨_, Heap.get?_push_size _ rfl, rfl, rfl⟩ q)
omit O in
theorem jr_lst {m : Mp} {H : Hp} {h : Nat} {a : Addr} (ea : m h = some a) : JR g m H (.lst h) (Itl g.K a) := by
  intro m' H' st i e S1
  have ea := e.mm _ _ ea
  have key : ∀ ds : List D, st[h]? = some (.lst ds) ∨ st[h]? = some (.fro ds) → (some ds[i]? = some none → (Itl g.K a).stop i H') ∧ ∀ d, some ds[i]? = some (some d) → (Itl g.K a).go i H' ∧ ∀ x H2, (Itl g.K a).yld i H' x H2 → Ext m' m' H' H2 ∧ SR g m' H2 st ∧ RD g m' H2 d x := fun ds e0 => by
    obtain ⟨vs, hq, rd⟩ := S1.sqL ea e0
    refine ⟨fun q => ⟨vs, hq, ?_⟩, fun d q => ?_⟩
    · rw [rd.length]
      exact List.getElem?_eq_none_iff.mp (Option.some.inj q)
    · obtain ⟨v, hv, rv⟩ := rd.get (Option.some.inj q)
      refine ⟨⟨vs, v, hq, hv⟩, fun x H2 ⟨e1, k⟩ => ?_⟩
      subst e1
      have q := k vs hq
      rw [hv] at q
      cases q
      exact ⟨.refl _ _, S1, rv⟩
  unfold J.at
  dsimp only
  split
  · exact key _ (.inl (by assumption))
  · exact key _ (.inr (by assumption))
  · exact ⟨(fun q => nomatch q), (fun d q => nomatch q)⟩
omit O in
theorem jr_tup {m : Mp} {H : Hp} {a : Addr} {ds : List D} {vs : List V} (hq : SqT g.K H a vs) (rd : RDs g m H ds vs) : JR g m H (.seq ds) (Itt g.K a) := by
  intro m' H' st i e S1
  have hq := SqT.ext e hq
  have rd := RDs.mono e _ _ rd
  refine ⟨fun q => ⟨vs, hq, ?_⟩, fun d q => ?_⟩
  · rw [rd.length]
    exact List.getElem?_eq_none_iff.mp (Option.some.inj q)
  · obtain ⟨v, hv, rv⟩ := rd.get (Option.some.inj q)
    refine ⟨⟨vs, v, hq, hv⟩, fun x H2 ⟨e1, k⟩ => ?_⟩
    subst e1
    have q := k vs hq
    rw [hv] at q
    cases q
    exact ⟨.refl _ _, S1, rv⟩
omit O in
theorem jr_str {m : Mp} {H : Hp} {z : List Nat} : JR g m H (.seq (z.map fun c => .str [c])) (Its ⟨z.toArray⟩) := by
  intro m' H' st i e S1
  have sz : (⟨z.toArray⟩ : Str).cps.size = z.length := by simp
  have at_ : (J.seq (z.map fun c => D.str [c])).at i st = some ((z.map fun c => D.str [c])[i]?) := rfl
  rw [at_, List.getElem?_map]
  refine ⟨fun q => ?_, fun d q => ?_⟩
  · show (⟨z.toArray⟩ : Str).cps.size ≤ i
    rw [sz]
    by_cases l : i < z.length
    · rw [List.getElem?_eq_getElem l] at q
      cases q
    · exact Nat.le_of_not_lt l
  · by_cases l : i < z.length
    · rw [List.getElem?_eq_getElem l] at q
      cases q
      refine ⟨show i < (⟨z.toArray⟩ : Str).cps.size by rw [sz]; exact l, fun x H2 ⟨e1, c, hc, k⟩ => ?_⟩
      subst e1 k
      have hc : z.toArray[i]? = some c := hc
      rw [List.getElem?_toArray, List.getElem?_eq_getElem l] at hc
      cases hc
      exact ⟨.refl _ _, S1, rfl⟩
    · rw [List.getElem?_eq_none (Nat.le_of_not_lt l)] at q
      cases q
theorem i_sq {tg ea : Expr} {a : E} (ha : PE X ea (rE g T C hx W a)) : PI X tg ea (rI g T C hx W (.sq a)) := by
  refine PI.weak O (pi_seq O ha) fun σ H R ⟨m, env, st, SR_, ER_, h⟩ => ?_
  refine go_E O SR_ ER_ h fun y s1 m1 H1 v1 e1 S1 E1 r1 z => ?_
  unfold walkQ at z
  rw [O.K]
  split at z
  · obtain ⟨a, vs, rfl, hq, rd⟩ := rd_tup r1
    exact .inr (.inl ⟨a, vs, rfl, hq, z m1 H1 _ e1 S1 (jr_tup hq rd)⟩)
  · cases rd_str r1
    exact .inr (.inr ⟨_, rfl, z m1 H1 _ e1 S1 jr_str⟩)
  · obtain ⟨a, rfl, ea⟩ := rd_ref r1
    split at z
    · rename_i e0
      obtain ⟨vs, hq, _⟩ := S1.sqL ea (.inl e0)
      exact .inl ⟨a, vs, rfl, hq, z m1 H1 _ e1 S1 (jr_lst ea)⟩
    · rename_i e0
      obtain ⟨vs, hq, _⟩ := S1.sqL ea (.inr e0)
      exact .inl ⟨a, vs, rfl, hq, z m1 H1 _ e1 S1 (jr_lst ea)⟩
    · exact z.elim
  · exact z.elim
omit O in
theorem jr_enm {m : Mp} {H : Hp} {h : Nat} {a : Addr} (ea : m h = some a) : JR g m H (.enm h) (Ite g.K a) := by
  intro m' H' st i e S1
  have ea := e.mm _ _ ea
  have key : ∀ ds : List D, st[h]? = some (.lst ds) ∨ st[h]? = some (.fro ds) → (some (ds[i]?.map fun d => D.tup [.int i, d]) = some none → (Ite g.K a).stop i H') ∧ ∀ d, some (ds[i]?.map fun d => D.tup [.int i, d]) = some (some d) → (Ite g.K a).go i H' ∧ ∀ x H2, (Ite g.K a).yld i H' x H2 → Ext m' m' H' H2 ∧ SR g m' H2 st ∧ RD g m' H2 d x := fun ds e0 => by
    obtain ⟨vs, hq, rd⟩ := S1.sqL ea e0
    refine ⟨fun q => ⟨vs, hq, ?_⟩, fun d q => ?_⟩
    · rw [rd.length]
      exact List.getElem?_eq_none_iff.mp (Option.map_eq_none_iff.mp (Option.some.inj q))
    · obtain ⟨d0, hd0, ed⟩ := Option.map_eq_some_iff.mp (Option.some.inj q)
      subst ed
      obtain ⟨v, hv, rv⟩ := rd.get hd0
      refine ⟨⟨vs, v, hq, hv⟩, fun x H2 ⟨p, y, ex, np, eH, k⟩ => ?_⟩
      subst ex eH
      have q := k vs hq
      rw [hv] at q
      cases q
      have e2 : Ext m' m' H' (upd H' p (.tup [.int (i : Nat), v])) := ext_new np fun _ _ z => z
      exact ⟨e2, S1.fresh np, p, _, rfl, .inl (.inl upd_same), .cons rfl (.one (RD.mono e2 _ _ rv))⟩
  unfold J.at
  dsimp only
  split
  · exact key _ (.inl (by assumption))
  · exact key _ (.inr (by assumption))
  · exact ⟨(fun q => nomatch q), (fun d q => nomatch q)⟩
theorem i_enm {es : List Expr} {k : Nat} {ea : Expr} {a : E} {x : Str} {p pos tp : Pos} (h1 : x = "enumerate") (h2 : gloB S x = true) (h3 : noStar ea = true) (ha : PE X ea (rE g T C hx W a)) : PI X (.Tuple es k tp) (.Call (.Name x p) [ea] [] pos) (rI g T C hx W (.enm a)) := by
  subst h1
  refine PI.weak O (pi_enum (O.gl h2) (O.top.blt _ (by decide)) (a_cons O h3 ha (a_nil O)) (star_cons h3)) fun σ H R ⟨m, env, st, SR_, ER_, h⟩ => ?_
  refine go_A O SR_ ER_ (R := fun ds s1 => ∃ x, ds = [x] ∧ enmQ s1 x fun j => ∀ m' H' J0, Ext m m' H H' → SR g m' H' s1 → JR g m' H' j J0 → R J0 H')
    (wpE_mono O.MC a env st _ _ _ _ (fun d s z => ⟨d, rfl, z⟩) (fun _ _ z => z) h) fun ds s1 m1 H1 vs e1 S1 E1 r1 ⟨x, ex, z⟩ => ?_
  subst ex
  obtain ⟨v, rfl, rv⟩ := r1.un1
  unfold enmQ at z
  rw [O.K]
  split at z
  · obtain ⟨a, rfl, ea⟩ := rd_ref rv
    split at z
    · rename_i e0
      obtain ⟨vs, hq, _⟩ := S1.sqL ea (.inl e0)
      exact ⟨a, vs, rfl, hq, z m1 H1 _ e1 S1 (jr_enm ea)⟩
    · rename_i e0
      obtain ⟨vs, hq, _⟩ := S1.sqL ea (.inr e0)
      exact ⟨a, vs, rfl, hq, z m1 H1 _ e1 S1 (jr_enm ea)⟩
    · exact z.elim
  · exact z.elim
omit O in
theorem jr_zip {m : Mp} {H : Hp} {h h' : Nat} {a b : Addr} (ea : m h = some a) (eb : m h' = some b) : JR g m H (.zip h h') (Itz g.K a b) := by
  intro m' H' st i e S1
  have ea := e.mm _ _ ea
  have eb := e.mm _ _ eb
  unfold J.at
  dsimp only
  split
  · rename_i xs ys e0 e0'
    obtain ⟨vs, hq, rd⟩ := S1.sqL ea (.inl e0)
    obtain ⟨ws, hq', rd'⟩ := S1.sqL eb (.inl e0')
    split
    · rename_i x y ex ey
      refine ⟨(fun q => nomatch q), fun d q => ?_⟩
      cases q
      obtain ⟨v, hv, rv⟩ := rd.get ex
      obtain ⟨w, hw, rw'⟩ := rd'.get ey
      refine ⟨⟨vs, ws, v, w, hq, hq', hv, hw⟩, fun u H2 ⟨p, y1, y2, eu, np, eH, k, k'⟩ => ?_⟩
      subst eu eH
      have q := k vs hq
      rw [hv] at q
      cases q
      have q := k' ws hq'
      rw [hw] at q
      cases q
      have e2 : Ext m' m' H' (upd H' p (.tup [v, w])) := ext_new np fun _ _ z => z
      exact ⟨e2, S1.fresh np, p, _, rfl, .inl (.inl upd_same), .cons (RD.mono e2 _ _ rv) (.one (RD.mono e2 _ _ rw'))⟩
    · rename_i no
      refine ⟨fun _ => ⟨vs, ws, hq, hq', ?_⟩, (fun d q => nomatch q)⟩
      rw [rd.length, rd'.length]
      by_cases l : i < xs.length
      · by_cases l' : i < ys.length
        · exact (no _ _ (List.getElem?_eq_getElem l) (List.getElem?_eq_getElem l')).elim
        · exact .inr (Nat.le_of_not_lt l')
      · exact .inl (Nat.le_of_not_lt l)
  · exact ⟨(fun q => nomatch q), (fun d q => nomatch q)⟩
omit O in
theorem jr_zipT {m : Mp} {H : Hp} {a b : Addr} {xs ys : List D} {vs ws : List V} (hq : SqT g.K H a vs) (rd : RDs g m H xs vs) (hq' : SqT g.K H b ws) (rd' : RDs g m H ys ws) : JR g m H (.seq (List.zipWith (fun u v => .tup [u, v]) xs ys)) (ItzT g.K a b) := by
  intro m' H' st i e S1
  have hq := SqT.ext e hq
  have rd := RDs.mono e _ _ rd
  have hq' := SqT.ext e hq'
  have rd' := RDs.mono e _ _ rd'
  have at_ : (J.seq (List.zipWith (fun u v => D.tup [u, v]) xs ys)).at i st = some ((List.zipWith (fun u v => D.tup [u, v]) xs ys)[i]?) := rfl
  rw [at_, List.getElem?_zipWith]
  by_cases l : i < xs.length
  · by_cases l' : i < ys.length
    · rw [List.getElem?_eq_getElem l, List.getElem?_eq_getElem l']
      refine ⟨(fun q => nomatch q), fun d q => ?_⟩
      cases q
      obtain ⟨v, hv, rv⟩ := rd.get (List.getElem?_eq_getElem l)
      obtain ⟨w, hw, rw'⟩ := rd'.get (List.getElem?_eq_getElem l')
      refine ⟨⟨vs, ws, v, w, hq, hq', hv, hw⟩, fun u H2 ⟨p, y1, y2, eu, np, eH, k, k'⟩ => ?_⟩
      subst eu eH
      have q := k vs hq
      rw [hv] at q
      cases q
      have q := k' ws hq'
      rw [hw] at q
      cases q
      have e2 : Ext m' m' H' (upd H' p (.tup [v, w])) := ext_new np fun _ _ z => z
      exact ⟨e2, S1.fresh np, p, _, rfl, .inl (.inl upd_same), .cons (RD.mono e2 _ _ rv) (.one (RD.mono e2 _ _ rw'))⟩
    · rw [List.getElem?_eq_none (Nat.le_of_not_lt l')]
      refine ⟨fun _ => ⟨vs, ws, hq, hq', .inr ?_⟩, fun d q => ?_⟩
      · rw [rd'.length]; exact Nat.le_of_not_lt l'
      · rw [List.getElem?_eq_getElem l] at q; cases q
  · rw [List.getElem?_eq_none (Nat.le_of_not_lt l)]
    refine ⟨fun _ => ⟨vs, ws, hq, hq', .inl ?_⟩, (fun d q => nomatch q)⟩
    rw [rd.length]; exact Nat.le_of_not_lt l
theorem i_zip {es : List Expr} {k : Nat} {ea eb : Expr} {a b : E} {x : Str} {p pos tp : Pos} (h1 : x = "zip") (h2 : gloB S x = true) (h3 : noStar ea = true) (h4 : noStar eb = true) (ha : PE X ea (rE g T C hx W a)) (hb : PE X eb (rE g T C hx W b)) :
    PI X (.Tuple es k tp) (.Call (.Name x p) [ea, eb] [] pos) (rI g T C hx W (.zip a b)) := by
  subst h1
  refine PI.weak O (pi_zipA (O.gl h2) (O.top.blt _ (by decide)) (a_cons O h3 ha (a_cons O h4 hb (a_nil O))) (star_cons h3) (star_any (show (noStar eb && true) = true by rw [h4]; rfl))) fun σ H R ⟨m, env, st, SR_, ER_, h⟩ => ?_
  refine go_A O SR_ ER_ (R := fun ds s1 => ∃ x y, ds = [x, y] ∧ zipQ s1 x y fun j => ∀ m' H' J0, Ext m m' H H' → SR g m' H' s1 → JR g m' H' j J0 → R J0 H')
    (wpE_mono O.MC a env st _ _ _ _ (fun d s z => wpE_mono O.MC b env s _ _ _ _ (fun d2 s z => ⟨d, d2, rfl, z⟩) (fun _ _ z => z) z) (fun _ _ z => z) h) fun ds s1 m1 H1 vs e1 S1 E1 r1 ⟨x, y, ex, z⟩ => ?_
  subst ex
  obtain ⟨v, w, rfl, rv, rw'⟩ := r1.two
  unfold zipQ at z
  rw [O.K]
  split at z
  · obtain ⟨a, vs, rfl, hq, rd⟩ := rd_tup rv
    obtain ⟨b, ws, rfl, hq', rd'⟩ := rd_tup rw'
    exact ⟨a, b, vs, ws, rfl, .inr ⟨hq, hq', z m1 H1 _ e1 S1 (jr_zipT hq rd hq' rd')⟩⟩
  · obtain ⟨a, rfl, ea⟩ := rd_ref rv
    obtain ⟨b, rfl, eb⟩ := rd_ref rw'
    split at z
    · rename_i e0 e0'
      obtain ⟨vs, hq, _⟩ := S1.sqL ea (.inl e0)
      obtain ⟨ws, hq', _⟩ := S1.sqL eb (.inl e0')
      exact ⟨a, b, vs, ws, rfl, .inl ⟨hq, hq', z m1 H1 _ e1 S1 (jr_zip ea eb)⟩⟩
    · exact z.elim
  · exact z.elim
omit O in
theorem wipe_set {σ : L2.St} {i : Nat} {x : Option V} : ∀ {vs : List Nat}, i ∈ vs → wipe (σ.set i x) vs = wipe σ vs
  | v :: vs, h => by
    by_cases e : i ∈ vs
    · show (wipe (σ.set i x) vs).set v none = (wipe σ vs).set v none
      rw [wipe_set e]
    · have z : i = v := by
        cases h with
        | head => rfl
        | tail _ m => exact absurd m e
      subst z
      show (wipe (σ.set i x) vs).set i none = (wipe σ vs).set i none
      have out : ∀ {ws : List Nat}, i ∉ ws → wipe (σ.set i x) ws = (wipe σ ws).set i x := by
        intro ws
        induction ws with
        | nil => intro _; rfl
        | cons w ws ih =>
          intro hw
          have h1 : w ≠ i := fun e => hw (by rw [e]; exact List.mem_cons_self)
          have h2 : i ∉ ws := fun m => hw (List.mem_cons_of_mem _ m)
          show (wipe (σ.set i x) ws).set w none = ((wipe σ ws).set w none).set i x
          rw [ih h2, List.set_comm _ _ (Ne.symm h1)]
      rw [out e, List.set_set]
def rG (g : G) (tg : Tg) : TG := fun v σ H Q => ∃ (m : Mp) (env env' : Env) (d : D), ER g m H σ env ∧ RD g m H d v ∧ bindT tg d env = some env' ∧ ∀ σ', ER g m H σ' env' → (∀ vs, (∀ i ∈ tgVs tg, i ∈ vs) → wipe σ' vs = wipe σ vs) → Q σ' H
omit O in
theorem PG.weak {tg : Expr} {t t' : TG} (h : PG X tg t) (w : ∀ v σ H Q, t' v σ H Q → t v σ H Q) : PG X tg t' := ⟨fun pins s σ H v u Q I r q => h.run pins s σ H v u Q I r (w v σ H Q q)⟩
def stoB (X : Cx) (x : Str) : Prop := Loc X.env.scope x ∧ (X.fn x = true ∨ X.env.scope.names.lookup x = some .local)
omit O in
theorem g_name {i : Nat} {x : Str} {p : Pos} (nd : X.N.Nodup) (h1 : X.N[i]? = some x) (h2 : stoB X x) : PG X (.Name x p) (rG g (.nm i)) := by
  refine PG.weak (pg_name nd h1 h2.1 h2.2) fun v σ H Q ⟨m, env, env', d, E1, r, b, k⟩ => ?_
  cases b
  exact k _ (E1.set i r) fun vs hv => wipe_set (hv i (by simp [tgVs]))
def rGs (is : List Nat) : TGs := fun vs σ H Q => vs.length = is.length ∧ Q ((is.zip vs).foldl (fun s p => s.set p.1 (some p.2)) σ) H
omit O in
theorem gs_names (nd : X.N.Nodup) : ∀ {is : List Nat} {es : List Expr}, es.length = is.length → (∀ p ∈ is.zip es, ∃ x ps, p.2 = .Name x ps ∧ X.N[p.1]? = some x ∧ stoB X x) → PGs X es (rGs is) ∧ (assignEach es X.env).length = es.length ∧ (assignEach es X.env).findIdx? (·.1) = none
  | [], [], _, _ => ⟨⟨fun pins s σ H vs us Q I r h => pgs_nil.run pins s σ H vs us Q I r ⟨List.eq_nil_of_length_eq_zero h.1, by
      have e := List.eq_nil_of_length_eq_zero h.1
      subst e
      exact h.2⟩⟩, rfl, rfl⟩
  | i :: is, e :: es, l, h => by
    obtain ⟨x, ps, e1, h1, h2⟩ := h (i, e) (by simp)
    dsimp only at e1 h1
    subst e1
    obtain ⟨k1, k2, k3⟩ := gs_names nd (Nat.succ.inj l) fun p hp => h p (by rw [List.zip_cons_cons]; exact List.mem_cons_of_mem _ hp)
    have ae : assignEach (.Name x ps :: es) X.env = (false, assign (.Name x ps) X.env) :: assignEach es X.env := rfl
    refine ⟨⟨fun pins s σ H vs us Q I r q => (pgs_cons (pg_name (pos := ps) nd h1 h2.1 h2.2) k1 (by rw [ae]; rfl)).run pins s σ H vs us Q I r ?_⟩, by rw [ae, List.length_cons, List.length_cons, k2], by
      rw [ae, List.findIdx?_cons]
      simp [k3]⟩
    obtain ⟨q1, q2⟩ := q
    cases vs with
    | nil => cases q1
    | cons v vs => exact ⟨v, vs, rfl, Nat.succ.inj q1, q2⟩
omit O in
theorem er_fold {m : Mp} {H : Hp} : ∀ {is : List Nat} {ds : List D} {vs : List V} {σ : L2.St} {env : Env}, ER g m H σ env → RDs g m H ds vs → ER g m H ((is.zip vs).foldl (fun s p => s.set p.1 (some p.2)) σ) ((is.zip ds).foldl (fun e p => e.set p.1 (some p.2)) env)
  | [], _, _, _, _, h, _ => by simpa using h
  | i :: is, [], vs, _, _, h, r => by
    rw [show vs = [] from r]
    simpa using h
  | i :: is, d :: ds, vs, σ, env, h, r => by
    obtain ⟨v, r', rfl, h2, h3⟩ := r
    rw [List.zip_cons_cons, List.zip_cons_cons, List.foldl_cons, List.foldl_cons]
    exact er_fold (h.set i h2) h3
omit O in
theorem wipe_fold {ws : List Nat} : ∀ {is : List Nat} {vs : List V} {σ : L2.St}, (∀ i ∈ is, i ∈ ws) → wipe ((is.zip vs).foldl (fun s p => s.set p.1 (some p.2)) σ) ws = wipe σ ws
  | [], _, _, _ => by simp
  | i :: is, [], _, _ => by simp
  | i :: is, v :: vs, σ, h => by
    rw [List.zip_cons_cons, List.foldl_cons, wipe_fold fun j hj => h j (List.mem_cons_of_mem _ hj), wipe_set (h i List.mem_cons_self)]
theorem g_tup {is : List Nat} {es : List Expr} {k : Nat} {p : Pos} (hc : X.calm = true) (h1 : es.length = is.length) (h2 : ∀ p ∈ is.zip es, ∃ x ps, p.2 = .Name x ps ∧ X.N[p.1]? = some x ∧ stoB X x) : PG X (.Tuple es k p) (rG g (.tp is)) := by
  obtain ⟨k1, k2, k3⟩ := gs_names O.nd h1 h2
  refine PG.weak (pg_tup hc k1 k2 k3) fun v σ H Q ⟨m, env, env', d, E1, r, b, kk⟩ => ?_
  cases d with
  | tup ds =>
    obtain ⟨a, vs, rfl, hq, rd⟩ := rd_tup r
    unfold bindT at b
    dsimp only at b
    split at b
    · rename_i e
      cases b
      rw [O.K]
      exact ⟨a, vs, rfl, hq, by rw [rd.length, e, h1], by rw [rd.length, e], kk _ (er_fold E1 rd) fun ws hw => wipe_fold hw⟩
    · cases b
  | _ => cases b
theorem g_any {raw : Option Scope} {tg : Tg} {ex : Expr} (hc : X.calm = true) (st : ∀ x, stB S raw x = true → stoB X x) (h : ckTg S raw tg ex = true) : PG X ex (rG g tg) := by
  unfold ckTg at h
  split at h
  · rw [Bool.and_eq_true] at h
    refine g_name O.nd ?_ (st _ h.2)
    rw [O.N]
    exact of_decide_eq_true h.1
  · rw [Bool.and_eq_true] at h
    refine g_tup O hc (of_decide_eq_true h.1) fun p hp => ?_
    have q := List.all_eq_true.mp h.2 p hp
    split at q
    · rename_i x ps e
      rw [Bool.and_eq_true] at q
      refine ⟨x, ps, e, ?_, st _ q.2⟩
      rw [O.N]
      exact of_decide_eq_true q.1
    · cases q
  · cases h
theorem blk_ok {sc : Scope} {cl : List (Str × Addr)} {A0 : Addr} {s : Shared} {H : Hp} {fp : List Addr} : CxOk g T n C L hx (fun _ _ _ _ => False) (blkS S sc) (X.blk s H sc (compEnvC sc cl A0 X.env) fp) where
  K := O.K
  N := O.N
  nd := O.nd
  sc := by
    show relS sc X.env.scope = relS sc S.sc
    rw [O.sc]
  F := O.F
  MC := O.MC
  tk := fun u s' ⟨a, B, sI, pins, σ, H, cls, d, e, I, nb, up, sky, na, os, ag, w⟩ => w.elim
  hu := O.hu
  calm := O.calm
  room := O.room
  top := O.top
  cal := O.cal
  hL := O.hL
  exi := O.exi
omit O in
theorem set_wipe {σ : L2.St} {v : Nat} : ∀ {ws : List Nat}, v ∈ ws → (wipe σ ws).set v none = wipe σ ws
  | w :: ws, h => by
    show ((wipe σ ws).set w none).set v none = (wipe σ ws).set w none
    by_cases e : v = w
    · subst e
      rw [List.set_set]
    · have m : v ∈ ws := by
        cases h with
        | head => exact absurd rfl e
        | tail _ m => exact m
      rw [List.set_comm _ _ (Ne.symm e), set_wipe m]
omit O in
theorem wipe_wipe (σ : L2.St) (ws : List Nat) : ∀ {vs : List Nat}, (∀ v ∈ vs, v ∈ ws) → wipe (wipe σ ws) vs = wipe σ ws
  | [], _ => rfl
  | v :: vs, h => by
    show (wipe (wipe σ ws) vs).set v none = wipe σ ws
    rw [wipe_wipe σ ws fun x m => h x (List.mem_cons_of_mem _ m), set_wipe (h v List.mem_cons_self)]
def rTs (g : G) (T : Tab) (C : Calls) (hx : Option Exc) (cs : A) : TT := fun σ H Q => ∃ (m : Mp) (env : Env) (st : Store), SR g m H st ∧ ER g m H σ env ∧ wpTs T C hx cs env st fun b s => ∀ m' H', Ext m m' H H' → SR g m' H' s → Q b H'
theorem comp_wt {elt it : E} {tg : Tg} {cs : A} {own : List Nat} (h3 : ∀ i ∈ tgVs tg, i ∈ own) {σ : L2.St} {H : Hp} {Q : VK} (h : rE g T C hx W (.comp elt tg it cs own) σ H Q) :
    tLc (rI g T C hx W it) (rG g tg) (rTs g T C hx cs) (rE g T C hx (fun _ _ _ _ => False) elt) own σ H Q := by
  obtain ⟨m, env, st, SR_, ER_, _, h⟩ := h
  refine ⟨m, env, st, SR_, ER_, wpI_mono O.MC it env st _ _ _ _ (fun j s1 ⟨k, hc⟩ m1 H1 J0 e1 S1 jr D nD => ?_) (fun _ _ z => z) h⟩
  refine ⟨fun i k H2 => ∃ m2 st2, Ext m1 m2 H1 H2 ∧ SR g m2 H2 st2 ∧ m2 s1.length = some D ∧ cmpN j tg (fun e s P => wpTs T C hx cs e s P) (fun e s P => wpE T C hx elt e s P (fun _ _ => False)) s1.length (Wn g m H Q) k i (wipeE env own) st2, ⟨k, put m1 s1.length D, s1 ++ [.lst []], ext_new nD (put_mm S1), S1.alloc (o := .lst []) nD rfl ⟨[], upd_same, .nil⟩, put_same, hc⟩, ?_⟩
  rintro i k H2 ⟨m2, st2, e2, S2, mD, hc⟩
  cases k with
  | zero => exact hc.elim
  | succ k =>
    unfold cmpN at hc
    have E0 : ER g m2 H2 (wipe σ own) (wipeE env own) := (ER_.mono (e1.trans e2)).wipe own
    obtain ⟨j1, j2⟩ := jr m2 H2 st2 i e2 S2
    split at hc
    · exact hc.elim
    · rename_i ea
      exact .inl ⟨j1 ea, hc m2 H2 (.ref D) (e1.trans e2) S2 ⟨D, rfl, mD⟩⟩
    · rename_i d ea
      obtain ⟨go, jy⟩ := j2 d ea
      split at hc
      · exact hc.elim
      · rename_i env' eb
        refine .inr ⟨go, _, fun H' z => ⟨k, Nat.lt_succ_self k, z⟩, fun x H3 yl => ?_⟩
        obtain ⟨e3, S3, rx⟩ := jy x H3 yl
        refine ⟨m2, _, env', d, E0.mono e3, rx, eb, fun σ' E3 hw => ⟨(hw own h3).trans (wipe_wipe _ _ fun _ z => z), m2, env', st2, S3, E3, ?_⟩⟩
        refine wpTs_mono O.MC cs env' st2 _ _ (fun b st4 z m4 H4 e4 S4 => ?_) hc
        cases b with
        | false =>
          rw [if_neg Bool.false_ne_true] at z ⊢
          exact ⟨m4, st4, (e2.trans e3).trans e4, S4, e4.mm _ _ mD, z⟩
        | true =>
          rw [if_pos rfl] at z ⊢
          refine ⟨m4, env', st4, S4, E3.mono e4, wpE_mono O.MC elt env' st4 _ _ _ _ (fun y st5 z m5 H5 v e5 S5 rv => ?_) (fun _ _ z => z.elim) z⟩
          split at z
          · rename_i acc el
            have mD5 := e5.mm _ _ (e4.mm _ _ mD)
            obtain ⟨vs, hD, rd⟩ := S5.lst mD5 el
            refine ⟨vs, hD, by rw [rd.length]; exact z.1, m5, _, ?_, S5.write mD5 el rfl rfl ?_, mD5, z.2⟩
            · exact (((e2.trans e3).trans e4).trans e5).trans (ext_mut (by rw [hD]; trivial))
            · exact ⟨vs ++ [v], upd_same, RDs.mono (ext_mut (by rw [hD]; trivial)) _ _ (rd.app (.one rv))⟩
          · exact z.elim
theorem s_comp {elt it : E} {tg : Tg} {cs : A} {own : List Nat} {ee tg' iter : Expr} {ifs : List Expr} {sc : Scope} {pos : Pos} (hi : PI X tg' iter (rI g T C hx W it)) (h1 : noSet iter = true) (h2 : blkC S.N S.sc sc (ownP S own) = true) (h3 : ∀ i ∈ tgVs tg, i ∈ own)
    (h4 : ckTg (blkS S sc) (some sc) tg tg' = true)
    (ht : ∀ X', CxOk g T n C L hx (fun _ _ _ _ => False) (blkS S sc) X' → PTs X' ifs (rTs g T C hx cs)) (he : ∀ X', CxOk g T n C L hx (fun _ _ _ _ => False) (blkS S sc) X' → PE X' ee (rE g T C hx (fun _ _ _ _ => False) elt)) :
    PE X (.ListComp ee [⟨tg', iter, ifs, 0⟩] sc pos) (rE g T C hx W (.comp elt tg it cs own)) := by
  by_cases hn : hx = none
  · have ok : BlkOk X.N X.env.scope sc (ownP S own) := by
      rw [O.N, O.sc]
      exact blkOk_by h2
    have oe : (ownP S own).map (·.2) = own := by
      unfold ownP
      rw [List.map_map]
      exact List.map_id' own
    refine PE.weak (pe_lc (O.calm hn) O.nd hi ok (fun s H A0 cl fp => g_any (blk_ok O) (O.calm hn) (fun x hx' => ?_) h4) (fun s H A0 cl fp => ht _ (blk_ok O)) (fun s H A0 cl fp => he _ (blk_ok O)) (noSet_fold h1)) fun σ H Q h => ?_
    · unfold stB at hx'
      rw [Bool.and_eq_true] at hx'
      refine ⟨(blk_ok O).loc hx'.1, ?_⟩
      have q := hx'.2
      dsimp only at q
      split at q
      · rename_i e
        refine .inr ?_
        show (relS sc X.env.scope).names.lookup x = some .local
        rw [O.sc]
        exact e
      · split at q
        · rename_i e
          refine .inl ?_
          show (sc.names.lookup x == some .cell) = true
          rw [e]
          rfl
        · cases q
    · rw [oe]
      exact comp_wt O h3 h
  · exact ⟨fun pins s σ H Q I ⟨_, _, _, _, _, h, _⟩ => absurd h hn⟩
theorem blk_sto {sc : Scope} {cl : List (Str × Addr)} {A0 : Addr} {s : Shared} {H : Hp} {fp : List Addr} {x : Str} (hx' : stB (blkS S sc) (some sc) x = true) : stoB (X.blk s H sc (compEnvC sc cl A0 X.env) fp) x := by
  unfold stB at hx'
  rw [Bool.and_eq_true] at hx'
  refine ⟨(blk_ok O).loc hx'.1, ?_⟩
  have q := hx'.2
  dsimp only at q
  split at q
  · rename_i e
    refine .inr ?_
    show (relS sc X.env.scope).names.lookup x = some .local
    rw [O.sc]
    exact e
  · split at q
    · rename_i e
      refine .inl ?_
      show (sc.names.lookup x == some .cell) = true
      rw [e]
      rfl
    · cases q
theorem own_ix {own : List Nat} : (ownP S own).map (·.2) = own := by
  unfold ownP
  rw [List.map_map]
  exact List.map_id' own
theorem s_setLc {elt it : E} {tg : Tg} {cs : A} {own : List Nat} {ee tg' iter : Expr} {ifs : List Expr} {sc : Scope} {pos spos py : Pos} {i : Nat} {y : Str} (hc : X.calm = true) (hy : X.N[i]? = some y) (hyl : X.env.scope.names.lookup y = some .local)
    (hsw : swapsWith (.ListComp ee [⟨tg', iter, ifs, 0⟩] sc pos) (some (.Name y py)) spos.line X.env = pure true)
    (hi : PI X tg' iter (rI g T C hx W it)) (h1 : noSet iter = true) (h2 : blkC S.N S.sc sc (ownP S own) = true) (h3 : ∀ i ∈ tgVs tg, i ∈ own)
    (h4 : ckTg (blkS S sc) (some sc) tg tg' = true)
    (ht : ∀ X', CxOk g T n C L hx (fun _ _ _ _ => False) (blkS S sc) X' → PTs X' ifs (rTs g T C hx cs)) (he : ∀ X', CxOk g T n C L hx (fun _ _ _ _ => False) (blkS S sc) X' → PE X' ee (rE g T C hx (fun _ _ _ _ => False) elt)) :
    PS X (.Assign [.Name y py] (.ListComp ee [⟨tg', iter, ifs, 0⟩] sc pos) spos) (tAsg (rE g T C hx W (.comp elt tg it cs own)) (gName i)) := by
  have ok : BlkOk X.N X.env.scope sc (ownP S own) := by
    rw [O.N, O.sc]
    exact blkOk_by h2
  refine PS.weak (ps_setLc hc O.nd hy hyl hsw hi ok (fun s H A0 cl fp => g_any (blk_ok O) hc (fun x hx' => blk_sto O hx') h4) (fun s H A0 cl fp => ht _ (blk_ok O)) (fun s H A0 cl fp => he _ (blk_ok O)) (noSet_fold h1)) fun D σ H h => ?_
  rw [own_ix O]
  exact comp_wt O h3 h
end
end
end Y
set_option linter.all false
set_option maxHeartbeats 4000000
set_option maxRecDepth 100000
namespace Y
open PySem PySem.Spec PyProof.Rows L2 RZ
section
variable {g : G} {T : Tab} {n : Nm} {C : Calls} {L : Nat} {hx : Option Exc}
theorem pe_false {X : Cx} {e : Expr} {t : TE} (h : ∀ σ H Q, ¬ t σ H Q) : PE X e t := ⟨fun pins s σ H Q I q => (h _ _ _ q).elim⟩
theorem pt_false {X : Cx} {e : Expr} {t : TT} (h : ∀ σ H Q, ¬ t σ H Q) : PT X e t := ⟨fun pins s σ H Q I q => (h _ _ _ q).elim⟩
theorem pw_false {X : Cx} {e : Expr} {t : TT} (h : ∀ σ H Q, ¬ t σ H Q) : PW X e t := ⟨fun wh pins s σ H Q I q => (h _ _ _ q).elim⟩
theorem pi_false {X : Cx} {tg e : Expr} {t : TI} (h : ∀ σ H Q, ¬ t σ H Q) : PI X tg e t := ⟨fun pins s σ H Q I q => (h _ _ _ q).elim⟩
theorem and2 {a b : Bool} (h : (a && b) = true) : a = true ∧ b = true := by rwa [Bool.and_eq_true] at h
def isBo : Expr → Bool
  | .BoolOp .. => true
  | _ => false
theorem bad_E {W : WX} : ∀ σ H Q, ¬ rE g T C hx W .bad σ H Q := fun _ _ _ ⟨_, _, _, _, _, h⟩ => h
theorem bad_T {W : WX} : ∀ σ H Q, ¬ rT g T C hx W .bad σ H Q := fun _ _ _ ⟨_, _, _, _, _, h⟩ => h
theorem bad_I {W : WX} : ∀ σ H R, ¬ rI g T C hx W .bad σ H R := fun _ _ _ ⟨_, _, _, _, _, h⟩ => h
mutual
theorem snd_E : ∀ (e : E) {W : WX} {S : Sta} {X : Cx} {ex : Expr}, CxOk g T n C L hx W S X → ckE n e S ex = true → PE X ex (rE g T C hx W e)
  | .var i, W, S, X, ex, O, h => by
    unfold ckE at h
    split at h
    · obtain ⟨h, h3⟩ := and2 h
      obtain ⟨h1, h2⟩ := and2 h
      exact s_var O (of_decide_eq_true h1) h2 h3
    · cases h
  | .con d, W, S, X, ex, O, h => by
    unfold ckE at h
    split at h
    · exact s_con O h
    · cases h
  | .glo k, W, S, X, ex, O, h => by
    unfold ckE at h
    split at h
    · obtain ⟨h, h3⟩ := and2 h
      obtain ⟨h1, h2⟩ := and2 h
      exact s_glo O (of_decide_eq_true h1) h2 h3
    · cases h
  | .bin o a b, W, S, X, ex, O, h => by
    unfold ckE at h
    split at h
    · obtain ⟨h, h3⟩ := and2 h
      obtain ⟨h1, h2⟩ := and2 h
      exact s_bin O h1 (snd_E a O h2) (snd_E b O h3)
    · cases h
  | .neg a, W, S, X, ex, O, h => by
    unfold ckE at h
    split at h
    · exact s_neg O (snd_E a O h)
    · cases h
  | .cmp o a b, W, S, X, ex, O, h => by
    unfold ckE at h
    split at h
    · obtain ⟨h, h4⟩ := and2 h
      obtain ⟨h, h3⟩ := and2 h
      obtain ⟨h1, h2⟩ := and2 h
      exact s_cmp O h1 h2 (snd_E a O h3) (snd_E b O h4)
    · cases h
  | .chain o o' a b c, W, S, X, ex, O, h => by
    unfold ckE at h
    split at h
    · obtain ⟨h, h6⟩ := and2 h
      obtain ⟨h, h5⟩ := and2 h
      obtain ⟨h, h4⟩ := and2 h
      obtain ⟨h, h3⟩ := and2 h
      obtain ⟨h1, h2⟩ := and2 h
      exact s_chain O h1 h2 h3 (snd_E a O h4) (snd_E b O h5) (snd_E c O h6)
    · cases h
  | .isN a, W, S, X, ex, O, h => by
    unfold ckE at h
    split at h
    · exact s_isN O (snd_E a O h)
    · cases h
  | .notN a, W, S, X, ex, O, h => by
    unfold ckE at h
    split at h
    · exact s_notN O (snd_E a O h)
    · cases h
  | .and a b, W, S, X, ex, O, h => by
    unfold ckE at h
    split at h
    · rename_i x y r pos
      obtain ⟨h1, h2⟩ := and2 h
      have hb := snd_E b O h2
      refine s_and O (snd_E a O h1) ?_
      cases r with
      | nil => exact pe_one hb
      | cons z r => exact hb
    · cases h
  | .or a b, W, S, X, ex, O, h => by
    unfold ckE at h
    split at h
    · rename_i x y r pos
      obtain ⟨h1, h2⟩ := and2 h
      have hb := snd_E b O h2
      refine s_or O (snd_E a O h1) ?_
      cases r with
      | nil => exact pe_one hb
      | cons z r => exact hb
    · cases h
  | .not a, W, S, X, ex, O, h => by
    unfold ckE at h
    split at h
    · exact s_not O (snd_E a O h)
    · cases h
  | .ife c a b, W, S, X, ex, O, h => by
    unfold ckE at h
    split at h
    · obtain ⟨h, h3⟩ := and2 h
      obtain ⟨h1, h2⟩ := and2 h
      exact s_ife O (snd_T c O h1).1 (snd_E a O h2) (snd_E b O h3)
    · cases h
  | .call f as df, W, S, X, ex, O, h => by
    unfold ckE at h
    split at h
    · obtain ⟨h, h6⟩ := and2 h
      obtain ⟨h, h5⟩ := and2 h
      obtain ⟨h, h4⟩ := and2 h
      obtain ⟨h, h3⟩ := and2 h
      obtain ⟨h1, h2⟩ := and2 h
      refine s_call O (of_decide_eq_true h1) ?_ h3 h4 h5 (nil_of O h6) (snd_A as O h5 h6)
      rcases (Bool.or_eq_true _ _).mp h2 with z | z
      · exact .inl (List.isEmpty_iff.mp z)
      · exact .inr (of_decide_eq_true z)
    · cases h
  | .make c f as, W, S, X, ex, O, h => by
    unfold ckE at h
    split at h
    · obtain ⟨h, h6⟩ := and2 h
      obtain ⟨h, h5⟩ := and2 h
      obtain ⟨h, h4⟩ := and2 h
      obtain ⟨h, h3⟩ := and2 h
      obtain ⟨h1, h2⟩ := and2 h
      exact s_make O (of_decide_eq_true h1) (of_decide_eq_true h2) h3 h4 h5 (nil_of O h6) (snd_A as O h5 h6)
    · cases h
  | .meth alts o as, W, S, X, ex, O, h => by
    unfold ckE at h
    split at h
    · obtain ⟨h, h7⟩ := and2 h
      obtain ⟨h, h6⟩ := and2 h
      obtain ⟨h, h5⟩ := and2 h
      obtain ⟨h, h4⟩ := and2 h
      obtain ⟨h, h3⟩ := and2 h
      obtain ⟨h1, h2⟩ := and2 h
      exact s_meth O h1 h2 h3 (of_decide_eq_true h4) h5 (nil_of O h7) (snd_E o O h6) (snd_A as O h5 h7)
    · cases h
  | .fld f o, W, S, X, ex, O, h => by
    unfold ckE at h
    split at h
    · obtain ⟨h, h3⟩ := and2 h
      obtain ⟨h1, h2⟩ := and2 h
      exact s_fld O (of_decide_eq_true h1) h2 (snd_E o O h3)
    · cases h
  | .pr p as, W, S, X, ex, O, h => by
    unfold ckE at h
    split at h
    · obtain ⟨h, h5⟩ := and2 h
      obtain ⟨h, h4⟩ := and2 h
      obtain ⟨h, h3⟩ := and2 h
      obtain ⟨h1, h2⟩ := and2 h
      exact s_pr O (of_decide_eq_true h1) h2 h3 h4 (snd_A as O h4 h5)
    · cases h
  | .me m o as, W, S, X, ex, O, h => by
    unfold ckE at h
    split at h
    · obtain ⟨h, h7⟩ := and2 h
      obtain ⟨h, h6⟩ := and2 h
      obtain ⟨h, h5⟩ := and2 h
      obtain ⟨h, h4⟩ := and2 h
      obtain ⟨h, h3⟩ := and2 h
      obtain ⟨h1, h2⟩ := and2 h
      exact s_me O (of_decide_eq_true h1) h2 h3 (of_decide_eq_true h4) h5 (nil_of O h7) (snd_E o O h6) (snd_A as O h5 h7)
    · cases h
  | .isi a ts, W, S, X, ex, O, h => by
    unfold ckE at h
    split at h
    · obtain ⟨h, h6⟩ := and2 h
      obtain ⟨h, h5⟩ := and2 h
      obtain ⟨h, h3⟩ := and2 h
      obtain ⟨h, h2⟩ := and2 h
      obtain ⟨h1, h1'⟩ := and2 h
      split at h6
      · exact s_isi1 O (of_decide_eq_true h1) h1' h3 h6 (snd_E a O h5)
      · split at h6
        · obtain ⟨h6, h7⟩ := and2 h6
          obtain ⟨h6, h8⟩ := and2 h6
          obtain ⟨h9, h10⟩ := and2 h8
          exact s_isiT O (of_decide_eq_true h1) h1' h3 (of_decide_eq_true h9) h7 (of_decide_eq_true h10) (snd_E a O h5)
        · cases h6
    · cases h
  | .idx a b, W, S, X, ex, O, h => by
    unfold ckE at h
    split at h
    · obtain ⟨h, h3⟩ := and2 h
      obtain ⟨h1, h2⟩ := and2 h
      exact s_idx O h1 (snd_E a O h2) (snd_E b O h3)
    · cases h
  | .sli a lo hi, W, S, X, ex, O, h => by
    unfold ckE at h
    split at h
    · obtain ⟨h, h3⟩ := and2 h
      obtain ⟨h1, h2⟩ := and2 h
      refine s_sli O (snd_E a O h1) ?_ ?_
      · split at h2
        · exact o_some O (snd_E lo O h2)
        · split at h2
          · exact o_none O
          · cases h2
      · split at h3
        · exact o_some O (snd_E hi O h3)
        · split at h3
          · exact o_none O
          · cases h3
    · cases h
  | .abs0, W, S, X, ex, O, h => by
    unfold ckE at h
    cases h
  | .tup as, W, S, X, ex, O, h => by
    unfold ckE at h
    split at h
    · obtain ⟨h, h3⟩ := and2 h
      obtain ⟨h1, h2⟩ := and2 h
      exact s_tup O h3 (of_decide_eq_true h2) (snd_A as O h1 h3)
    · cases h
  | .lst as, W, S, X, ex, O, h => by
    unfold ckE at h
    split at h
    · obtain ⟨h, h3⟩ := and2 h
      obtain ⟨h1, h2⟩ := and2 h
      exact s_lst O h3 (of_decide_eq_true h2) (snd_A as O h1 h3)
    · cases h
  | .comp elt tg it cs own, W, S, X, ex, O, h => by
    unfold ckE at h
    split at h
    · obtain ⟨h, h8⟩ := and2 h
      obtain ⟨h, h7⟩ := and2 h
      obtain ⟨h, h6⟩ := and2 h
      obtain ⟨h, h5⟩ := and2 h
      obtain ⟨h, h4⟩ := and2 h
      obtain ⟨h, h3⟩ := and2 h
      obtain ⟨h1, h2⟩ := and2 h
      exact s_comp O (snd_I it O h1) h2 h3 (fun i m => by simpa using List.all_eq_true.mp h6 i m) h5 (fun X' O' => snd_Ts cs O' h8) (fun X' O' => snd_E elt O' h7)
    · cases h
  | .fstr as, W, S, X, ex, O, h => by
    unfold ckE at h
    split at h
    · exact s_fstr O (snd_F as O h)
    · cases h
  | .bad, W, S, X, ex, O, h => pe_false bad_E
  | .dic _, _, _, _, _, _, h => by unfold ckE at h; cases h
  | .dcomp _ _ _ _ _ _, _, _, _, _, _, h => by unfold ckE at h; cases h
  | .rng1 _, _, _, _, _, _, h => by unfold ckE at h; cases h
  | .rng2 _ _, _, _, _, _, _, h => by unfold ckE at h; cases h
  | .enm _, _, _, _, _, _, h => by unfold ckE at h; cases h
  | .zip _ _, _, _, _, _, _, h => by unfold ckE at h; cases h
  | .tv _, _, _, _, _, _, h => by unfold ckE at h; cases h
  | .sq _, _, _, _, _, _, h => by unfold ckE at h; cases h
  | .efld _, _, _, _, _, _, h => by unfold ckE at h; cases h
  | .eisi _, _, _, _, _, _, h => by unfold ckE at h; cases h
theorem snd_T : ∀ (e : E) {W : WX} {S : Sta} {X : Cx} {ex : Expr}, CxOk g T n C L hx W S X → ckT n e S ex = true → PT X ex (rT g T C hx W e) ∧ (isBo ex = true → PW X ex (rT g T C hx W e))
  | .cmp o a b, W, S, X, ex, O, h => by
    unfold ckT at h
    split at h
    · obtain ⟨h, h4⟩ := and2 h
      obtain ⟨h, h3⟩ := and2 h
      obtain ⟨h1, h2⟩ := and2 h
      exact ⟨t_cmp O h1 h2 (snd_E a O h3) (snd_E b O h4), fun z => by cases z⟩
    · cases h
  | .chain o o' a b c, W, S, X, ex, O, h => by
    unfold ckT at h
    split at h
    · obtain ⟨h, h6⟩ := and2 h
      obtain ⟨h, h5⟩ := and2 h
      obtain ⟨h, h4⟩ := and2 h
      obtain ⟨h, h3⟩ := and2 h
      obtain ⟨h1, h2⟩ := and2 h
      exact ⟨t_chain O h1 h2 h3 (snd_E a O h4) (snd_E b O h5) (snd_E c O h6), fun z => by cases z⟩
    · cases h
  | .isN a, W, S, X, ex, O, h => by
    unfold ckT at h
    split at h
    · exact ⟨t_isN O (snd_E a O h), fun z => by cases z⟩
    · cases h
  | .notN a, W, S, X, ex, O, h => by
    unfold ckT at h
    split at h
    · exact ⟨t_notN O (snd_E a O h), fun z => by cases z⟩
    · cases h
  | .and a b, W, S, X, ex, O, h => by
    unfold ckT at h
    split at h
    · rename_i x y r pos
      obtain ⟨h1, h2⟩ := and2 h
      have hb := snd_T b O h2
      have q : PW X (.BoolOp .And (x :: y :: r) pos) (rT g T C hx W (.and a b)) := by
        refine w_and O (snd_T a O h1).1 ?_
        cases r with
        | nil => exact pw_and1 hb.1
        | cons z r => exact hb.2 rfl
      exact ⟨q.pt, fun _ => q⟩
    · cases h
  | .or a b, W, S, X, ex, O, h => by
    unfold ckT at h
    split at h
    · rename_i x y r pos
      obtain ⟨h1, h2⟩ := and2 h
      have hb := snd_T b O h2
      have q : PW X (.BoolOp .Or (x :: y :: r) pos) (rT g T C hx W (.or a b)) := by
        refine w_or O (snd_T a O h1).1 ?_
        cases r with
        | nil => exact pw_or1 hb.1
        | cons z r => exact hb.2 rfl
      exact ⟨q.pt, fun _ => q⟩
    · cases h
  | .not a, W, S, X, ex, O, h => by
    unfold ckT at h
    split at h
    · exact ⟨t_not O (snd_T a O h).1, fun z => by cases z⟩
    · cases h
  | .tv a, W, S, X, ex, O, h => by
    unfold ckT at h
    obtain ⟨h1, h2⟩ := and2 h
    refine ⟨t_tv O h1 (snd_E a O h2), fun z => ?_⟩
    cases ex <;> first | cases z; done | cases h1
  | .bad, W, S, X, ex, O, h => ⟨pt_false bad_T, fun _ => pw_false bad_T⟩
  | .var _, _, _, _, _, _, h => by unfold ckT at h; cases h
  | .con _, _, _, _, _, _, h => by unfold ckT at h; cases h
  | .glo _, _, _, _, _, _, h => by unfold ckT at h; cases h
  | .bin _ _ _, _, _, _, _, _, h => by unfold ckT at h; cases h
  | .neg _, _, _, _, _, _, h => by unfold ckT at h; cases h
  | .ife _ _ _, _, _, _, _, _, h => by unfold ckT at h; cases h
  | .call _ _ _, _, _, _, _, _, h => by unfold ckT at h; cases h
  | .make _ _ _, _, _, _, _, _, h => by unfold ckT at h; cases h
  | .meth _ _ _, _, _, _, _, _, h => by unfold ckT at h; cases h
  | .fld _ _, _, _, _, _, _, h => by unfold ckT at h; cases h
  | .pr _ _, _, _, _, _, _, h => by unfold ckT at h; cases h
  | .me _ _ _, _, _, _, _, _, h => by unfold ckT at h; cases h
  | .isi _ _, _, _, _, _, _, h => by unfold ckT at h; cases h
  | .idx _ _, _, _, _, _, _, h => by unfold ckT at h; cases h
  | .sli _ _ _, _, _, _, _, _, h => by unfold ckT at h; cases h
  | .abs0, _, _, _, _, _, h => by unfold ckT at h; cases h
  | .tup _, _, _, _, _, _, h => by unfold ckT at h; cases h
  | .lst _, _, _, _, _, _, h => by unfold ckT at h; cases h
  | .dic _, _, _, _, _, _, h => by unfold ckT at h; cases h
  | .comp _ _ _ _ _, _, _, _, _, _, h => by unfold ckT at h; cases h
  | .dcomp _ _ _ _ _ _, _, _, _, _, _, h => by unfold ckT at h; cases h
  | .fstr _, _, _, _, _, _, h => by unfold ckT at h; cases h
  | .rng1 _, _, _, _, _, _, h => by unfold ckT at h; cases h
  | .rng2 _ _, _, _, _, _, _, h => by unfold ckT at h; cases h
  | .enm _, _, _, _, _, _, h => by unfold ckT at h; cases h
  | .zip _ _, _, _, _, _, _, h => by unfold ckT at h; cases h
  | .sq _, _, _, _, _, _, h => by unfold ckT at h; cases h
  | .efld _, _, _, _, _, _, h => by unfold ckT at h; cases h
  | .eisi _, _, _, _, _, _, h => by unfold ckT at h; cases h
theorem snd_A : ∀ (as : A) {W : WX} {S : Sta} {X : Cx} {es : List Expr}, CxOk g T n C L hx W S X → noStars es = true → ckA n as S es = true → PA X es (rA g T C hx W as)
  | .nil, W, S, X, es, O, ns, h => by
    unfold ckA at h
    split at h
    · exact a_nil O
    · cases h
  | .cons e as, W, S, X, es, O, ns, h => by
    unfold ckA at h
    split at h
    · obtain ⟨h1, h2⟩ := and2 h
      obtain ⟨n1, n2⟩ := and2 ns
      exact a_cons O n1 (snd_E e O h1) (snd_A as O n2 h2)
    · cases h
theorem snd_F : ∀ (as : A) {W : WX} {S : Sta} {X : Cx} {es : List Expr}, CxOk g T n C L hx W S X → ckF n as S es = true → QF X (rE g T C hx W) es as
  | .nil, W, S, X, es, O, h => by
    unfold ckF at h
    split at h
    · exact .nil
    · cases h
  | .cons e as, W, S, X, es, O, h => by
    unfold ckF at h
    split at h
    · obtain ⟨h1, h2⟩ := and2 h
      exact .fmt (snd_E e O h1) (snd_F as O h2)
    · obtain ⟨h1, h2⟩ := and2 h
      split at h1
      · obtain ⟨h1, _⟩ := and2 h1
        rw [of_decide_eq_true h1]
        exact .con (snd_F as O h2)
      · cases h1
    · cases h
theorem snd_Ts : ∀ (as : A) {S : Sta} {X : Cx} {es : List Expr}, CxOk g T n C L hx (fun _ _ _ _ => False) S X → ckTs n as S es = true → PTs X es (rTs g T C hx as)
  | .nil, S, X, es, O, h => by
    unfold ckTs at h
    split at h
    · exact ⟨fun pins s σ H Q I ⟨m, env, st, a, b, c⟩ => pts_nil.run pins s σ H Q I (c m H (.refl _ _) a)⟩
    · cases h
  | .cons e .nil, S, X, es, O, h => by
    unfold ckTs at h
    split at h
    · obtain ⟨h1, _⟩ := and2 h
      have q := pts_one (snd_T e O h1).1
      exact ⟨fun pins s σ H Q I ⟨m, env, st, a, b, c⟩ => q.run pins s σ H Q I ⟨m, env, st, a, b, wpT_mono O.MC e env st _ _ _ _ (fun _ _ z => z) (fun _ _ z => z.elim) c⟩⟩
    · cases h
  | .cons e (.cons _ _), S, X, es, O, h => ⟨fun pins s σ H Q I ⟨_, _, _, _, _, z⟩ => z.elim⟩
theorem snd_I : ∀ (e : E) {W : WX} {S : Sta} {X : Cx} {tg ex : Expr}, CxOk g T n C L hx W S X → ckI n e S tg ex = true → PI X tg ex (rI g T C hx W e)
  | .rng1 a, W, S, X, tg, ex, O, h => by
    unfold ckI at h
    split at h
    · obtain ⟨h, h5⟩ := and2 h
      obtain ⟨h, h4⟩ := and2 h
      obtain ⟨h, h3⟩ := and2 h
      obtain ⟨h1, h2⟩ := and2 h
      exact i_rng1 O (of_decide_eq_true h1) h2 h4 (snd_E a O h5)
    · cases h
  | .rng2 a b, W, S, X, tg, ex, O, h => by
    unfold ckI at h
    split at h
    · obtain ⟨h, h7⟩ := and2 h
      obtain ⟨h, h6⟩ := and2 h
      obtain ⟨h, h5⟩ := and2 h
      obtain ⟨h, h4⟩ := and2 h
      obtain ⟨h, h3⟩ := and2 h
      obtain ⟨h1, h2⟩ := and2 h
      exact i_rng2 O (of_decide_eq_true h1) h2 h4 h5 (snd_E a O h6) (snd_E b O h7)
    · cases h
  | .enm a, W, S, X, tg, ex, O, h => by
    unfold ckI at h
    split at h
    · obtain ⟨h, h5⟩ := and2 h
      obtain ⟨h, h4⟩ := and2 h
      obtain ⟨h, h3⟩ := and2 h
      obtain ⟨h1, h2⟩ := and2 h
      exact i_enm O (of_decide_eq_true h1) h2 h4 (snd_E a O h5)
    · cases h
  | .zip a b, W, S, X, tg, ex, O, h => by
    unfold ckI at h
    split at h
    · obtain ⟨h, h7⟩ := and2 h
      obtain ⟨h, h6⟩ := and2 h
      obtain ⟨h, h5⟩ := and2 h
      obtain ⟨h, h4⟩ := and2 h
      obtain ⟨h, h3⟩ := and2 h
      obtain ⟨h1, h2⟩ := and2 h
      exact i_zip O (of_decide_eq_true h1) h2 h4 h5 (snd_E a O h6) (snd_E b O h7)
    · cases h
  | .sq a, W, S, X, tg, ex, O, h => by
    unfold ckI at h
    exact i_sq O (snd_E a O h)
  | .bad, W, S, X, tg, ex, O, h => pi_false bad_I
  | .var _, _, _, _, _, _, _, h => by unfold ckI at h; cases h
  | .con _, _, _, _, _, _, _, h => by unfold ckI at h; cases h
  | .glo _, _, _, _, _, _, _, h => by unfold ckI at h; cases h
  | .bin _ _ _, _, _, _, _, _, _, h => by unfold ckI at h; cases h
  | .neg _, _, _, _, _, _, _, h => by unfold ckI at h; cases h
  | .cmp _ _ _, _, _, _, _, _, _, h => by unfold ckI at h; cases h
  | .chain _ _ _ _ _, _, _, _, _, _, _, h => by unfold ckI at h; cases h
  | .isN _, _, _, _, _, _, _, h => by unfold ckI at h; cases h
  | .notN _, _, _, _, _, _, _, h => by unfold ckI at h; cases h
  | .and _ _, _, _, _, _, _, _, h => by unfold ckI at h; cases h
  | .or _ _, _, _, _, _, _, _, h => by unfold ckI at h; cases h
  | .not _, _, _, _, _, _, _, h => by unfold ckI at h; cases h
  | .tv _, _, _, _, _, _, _, h => by unfold ckI at h; cases h
  | .ife _ _ _, _, _, _, _, _, _, h => by unfold ckI at h; cases h
  | .call _ _ _, _, _, _, _, _, _, h => by unfold ckI at h; cases h
  | .make _ _ _, _, _, _, _, _, _, h => by unfold ckI at h; cases h
  | .meth _ _ _, _, _, _, _, _, _, h => by unfold ckI at h; cases h
  | .fld _ _, _, _, _, _, _, _, h => by unfold ckI at h; cases h
  | .pr _ _, _, _, _, _, _, _, h => by unfold ckI at h; cases h
  | .me _ _ _, _, _, _, _, _, _, h => by unfold ckI at h; cases h
  | .isi _ _, _, _, _, _, _, _, h => by unfold ckI at h; cases h
  | .idx _ _, _, _, _, _, _, _, h => by unfold ckI at h; cases h
  | .sli _ _ _, _, _, _, _, _, _, h => by unfold ckI at h; cases h
  | .abs0, _, _, _, _, _, _, h => by unfold ckI at h; cases h
  | .tup _, _, _, _, _, _, _, h => by unfold ckI at h; cases h
  | .lst _, _, _, _, _, _, _, h => by unfold ckI at h; cases h
  | .dic _, _, _, _, _, _, _, h => by unfold ckI at h; cases h
  | .comp _ _ _ _ _, _, _, _, _, _, _, h => by unfold ckI at h; cases h
  | .dcomp _ _ _ _ _ _, _, _, _, _, _, _, h => by unfold ckI at h; cases h
  | .fstr _, _, _, _, _, _, _, h => by unfold ckI at h; cases h
  | .efld _, _, _, _, _, _, _, h => by unfold ckI at h; cases h
  | .eisi _, _, _, _, _, _, _, h => by unfold ckI at h; cases h
end
end
end Y
set_option linter.all false
set_option maxHeartbeats 4000000
set_option maxRecDepth 100000
namespace Y
open PySem PySem.Spec PyProof.Rows L2 RZ
def noComp : Expr → Bool
  | .ListComp .. => false | .SetComp .. => false | .DictComp .. => false
  | _ => true
def isLc : Expr → Bool
  | .ListComp .. => true
  | _ => false
def noTupE : Expr → Bool
  | .Tuple .. => false
  | _ => true
def asgB : Expr → Expr → Bool
  | .Name _ _, ex => noComp ex || isLc ex
  | .Tuple .., ex => noTupE ex && noComp ex
  | _, _ => false
def loB (S : Sta) (x : Str) : Bool := match S.sc.names.lookup x with
  | some .local => true
  | _ => false
def ckR (n : Nm) : A → Sta → List Expr → Bool
  | .nil, _, [] => true
  | .cons e .nil, S, [ea] => ckE n e S ea
  | _, _, _ => false
def adB : Op → Bool
  | .add => true | .sub => true
  | _ => false
mutual
def ckS (n : Nm) : S → Sta → Stmt → Bool
  | .asg tg e, S, st => (match st with
    | .Assign [t] ex _ => ckTg S none tg t && asgB t ex && ckE n e S ex
    | _ => false)
  | .asg2 i j a b, S, st => (match st with
    | .Assign [.Tuple [.Name x px, .Name y py] _ _] (.Tuple [ea, eb] _ _) _ => decide (S.N[i]? = some x) && decide (S.N[j]? = some y) && decide (i ≠ j) && loB S x && loB S y && (py.line == px.line) && !(x == y) && noStars [ea, eb] &&
      !([ea, eb].all (foldedForSure 8)) && !([ea, eb].all (constantsAlone 8)) && ckE n a S ea && ckE n b S eb
    | _ => false)
  | .setf o f e, S, st => (match st with
    | .Assign [.Attribute eo x _] ex _ => decide (n.fd f = some x) && ckE n o S eo && ckE n e S ex
    | _ => false)
  | .seti o i e, S, st => (match st with
    | .Assign [.Subscript eo ei _] ex _ => ixB ei && ckE n o S eo && ckE n i S ei && ckE n e S ex
    | _ => false)
  | .augn i op e, S, st => (match st with
    | .AugAssign (.Name x _) eop ex _ => decide (S.N[i]? = some x) && locB S x && opB op eop && adB op && ckE n e S ex
    | _ => false)
  | .augf o f op e, S, st => (match st with
    | .AugAssign (.Attribute eo x _) eop ex _ => decide (n.fd f = some x) && opB op eop && adB op && ckE n o S eo && ckE n e S ex
    | _ => false)
  | .exp e, S, st => (match st with
    | .Expr ex _ => noComp ex && ckE n e S ex
    | _ => false)
  | .ret e, S, st => (match st with
    | .Return (some ex) _ => ckE n e S ex
    | _ => false)
  | .retN, S, st => (match st with
    | .Return none _ => true
    | _ => false)
  | .ifS c a b, S, st => (match st with
    | .If ec sa sb _ => ckT n c S ec && ckB n a S sa && ckB n b S sb
    | _ => false)
  | .forS tg it b, S, st => (match st with
    | .For t iter body [] _ => ckTg S none tg t && ckI n it S t iter && noSet iter && ckB n b S body
    | _ => false)
  | .whl c b, S, st => (match st with
    | .While ec body [] _ => ckT n c S ec && ckB n b S body
    | _ => false)
  | .brk, S, st => (match st with
    | .Break _ => true
    | _ => false)
  | .cnt, S, st => (match st with
    | .Continue _ => true
    | _ => false)
  | .pas, S, st => (match st with
    | .Pass _ => true
    | _ => false)
  | .rais c as, S, st => (match st with
    | .Raise (some (.Call (.Name x _) args [] _)) none _ => decide (n.ex c = some x) && gloB S x && okN x && noStars args && ckR n as S args
    | _ => false)
  | .tryS b hs, S, st => (match st with
    | .Try body (h0 :: hds) [] [] _ => ckB n b S body && ckH n hs S (h0 :: hds)
    | _ => false)
  | .bad, _, _ => true
  | .del _ _, _, _ => false
def ckB (n : Nm) : B → Sta → List Stmt → Bool
  | .nil, _, l => (match l with
    | [] => true
    | _ => false)
  | .cons s b, S, l => (match l with
    | x :: r => ckS n s S x && ckB n b S r
    | _ => false)
def ckH (n : Nm) : Hs → Sta → List ExceptHandler → Bool
  | .nil, _, l => (match l with
    | [] => true
    | _ => false)
  | .cons c nm b hs, S, l => (match l with
    | .ExceptHandler (some (.Name x _)) none (b0 :: suite) _ :: r => decide (n.ex c = some x) && gloB S x && okN x && (match nm with
      | none => true
      | some _ => false) && ckB n b S (b0 :: suite) && ckH n hs S r
    | _ => false)
end
structure CxS (g : G) (T : Tab) (n : Nm) (C : Calls) (L : Nat) (hx : Option Exc) (W : WX) (S : Sta) (X : Cx) : Prop where
  ok : CxOk g T n C L hx W S X
  fn : ∀ x, X.fn x = true
  kind : X.env.scope.kind = .function
  own : hx = none → PassesOwn (model X.prog X.w) X.A X.env X.xe
  stk : X.stack = X.env :: X.outer
  frm : X.env.frame = some X.env.locals
def kEnd (g : G) (m : Mp) (H : Hp) (W : WX) (D : Ends) : K where
  nx e s := ∀ m' H' σ', Ext m m' H H' → SR g m' H' s → ER g m' H' σ' e → D.nx σ' H'
  rt d s := ∀ m' H' v, Ext m m' H H' → SR g m' H' s → RD g m' H' d v → D.rt v H'
  bk e s := ∀ m' H' σ', Ext m m' H H' → SR g m' H' s → ER g m' H' σ' e → D.bk σ' H'
  ct e s := ∀ m' H' σ', Ext m m' H H' → SR g m' H' s → ER g m' H' σ' e → D.ct σ' H'
  xc x e s := ∀ m' H' σ' cls dx, Ext m m' H H' → SR g m' H' s → ER g m' H' σ' e → RX g m' H' x cls dx → W cls dx σ' H'
theorem kEnd_ext {g : G} {m m' : Mp} {H H' : Hp} {W : WX} {D : Ends} (e : Ext m m' H H') : (kEnd g m H W D).Le (kEnd g m' H' W D) :=
  ⟨fun _ _ z m2 H2 σ e2 => z m2 H2 σ (e.trans e2), fun _ _ z m2 H2 v e2 => z m2 H2 v (e.trans e2), fun _ _ z m2 H2 σ e2 => z m2 H2 σ (e.trans e2), fun _ _ z m2 H2 σ e2 => z m2 H2 σ (e.trans e2), fun _ _ _ z m2 H2 σ c d e2 => z m2 H2 σ c d (e.trans e2)⟩
def rS (g : G) (T : Tab) (C : Calls) (hx : Option Exc) (W : WX) (s : S) : TS := fun D σ H => ∃ (m : Mp) (env : Env) (st : Store), SR g m H st ∧ ER g m H σ env ∧ wpS T C hx s env st (kEnd g m H W D)
def rB (g : G) (T : Tab) (C : Calls) (hx : Option Exc) (W : WX) (b : B) : TS := fun D σ H => ∃ (m : Mp) (env : Env) (st : Store), SR g m H st ∧ ER g m H σ env ∧ wpB T C hx b env st (kEnd g m H W D)
section
variable {g : G} {T : Tab} {n : Nm} {C : Calls} {L : Nat} {hx : Option Exc} {W : WX} {S : Sta} {X : Cx}
theorem tg_nm {tg : Tg} {x : Str} {p : Pos} (h : ckTg S none tg (.Name x p) = true) : ∃ i, tg = .nm i ∧ S.N[i]? = some x ∧ stB S none x = true := by
  cases tg with
  | nm i =>
    have h : (decide (S.N[i]? = some x) && stB S none x) = true := h
    rw [Bool.and_eq_true] at h
    exact ⟨i, rfl, of_decide_eq_true h.1, h.2⟩
  | tp is => exact absurd (show false = true from h) Bool.false_ne_true
theorem ps_false {s : Stmt} {t : TS} (h : ∀ D σ H, ¬ t D σ H) : PS X s t := ⟨fun pins s σ H D I q => (h _ _ _ q).elim⟩
theorem lc_of {e : E} {S : Sta} {ee : Expr} {gs : List Comprehension} {sc : Scope} {pos : Pos} (h : ckE n e S (.ListComp ee gs sc pos) = true) : (∃ elt tg it cs own, e = .comp elt tg it cs own) ∨ e = .bad := by
  cases e <;> first
    | exact .inl ⟨_, _, _, _, _, rfl⟩
    | exact .inr rfl
    | (unfold ckE at h; cases h)
section
variable (O : CxS g T n C L hx W S X)
include O
theorem sto {x : Str} (h : stB S none x = true) : stoB X x := by
  unfold stB at h
  rw [Bool.and_eq_true] at h
  exact ⟨O.ok.loc h.1, .inl (O.fn x)⟩
theorem xk {m : Mp} {H : Hp} {σ : L2.St} {env : Env} {D : Ends} (E1 : ER g m H σ env) {x : Exc} {s : Store} (z : (kEnd g m H W D).xc x env s) : Wx g m H (WE W σ) x s := fun m2 H2 cls dx e2 S2 r2 => z m2 H2 σ cls dx e2 S2 (E1.mono e2) r2
theorem go_S {e : E} {σ : L2.St} {H : Hp} {m : Mp} {env : Env} {st : Store} {Q : VK} {D : Ends} {R : QE} (SR_ : SR g m H st) (ER_ : ER g m H σ env) (h : wpE T C hx e env st R fun x s => (kEnd g m H W D).xc x env s)
    (k : ∀ d s m' H' v, Ext m m' H H' → SR g m' H' s → ER g m' H' σ env → RD g m' H' d v → R d s → Q v H') : rE g T C hx W e σ H Q :=
  go_E O.ok SR_ ER_ (wpE_mono O.ok.MC e env st _ _ _ _ (fun _ _ z => z) (fun _ _ z => xk O ER_ z) h) k
theorem x_S {e : E} {H H' : Hp} {m m' : Mp} {env : Env} {st : Store} {D : Ends} {R : QE} (e1 : Ext m m' H H') (h : wpE T C hx e env st R fun x s => (kEnd g m H W D).xc x env s) : wpE T C hx e env st R fun x s => (kEnd g m' H' W D).xc x env s :=
  wpE_mono O.ok.MC e env st _ _ _ _ (fun _ _ z => z) (fun _ _ z => (kEnd_ext e1).xc _ _ _ z) h
theorem asg_wt {tg : Tg} {e : E} {D : Ends} {σ : L2.St} {H : Hp} (h : rS g T C hx W (.asg tg e) D σ H) : tAsg (rE g T C hx W e) (rG g tg) D σ H := by
  obtain ⟨m, env, st, SR_, ER_, h⟩ := h
  refine go_S O SR_ ER_ h.2 fun d s m1 H1 v e1 S1 E1 r1 z => ?_
  split at z
  · rename_i env' eb
    exact ⟨m1, env, env', d, E1, r1, eb, fun σ' E2 _ => z m1 H1 σ' e1 S1 E2⟩
  · exact z.elim
theorem no_sw {ex : Expr} {t : Option Expr} {l : Nat} (h : noComp ex = true) : swapsWith ex t l X.env = pure false := by
  cases ex <;> first | rfl | cases h
theorem lc_sw {ee : Expr} {gs : List Comprehension} {sc : Scope} {pos py : Pos} {y : Str} {l : Nat} : (X.env.scope.names.lookup y = some .local ∧ swapsWith (.ListComp ee gs sc pos) (some (.Name y py)) l X.env = pure true) ∨ swapsWith (.ListComp ee gs sc pos) (some (.Name y py)) l X.env = pure false := by
  have hb : X.env.blockKind = .function := by unfold PySem.Env.blockKind; rw [O.kind]; rfl
  have q : swapsWith (.ListComp ee gs sc pos) (some (.Name y py)) l X.env = pure (X.env.kindOf y == some .local && py.line == pos.line && !(sc.names.any fun (n, k) => n == y && (k == .local || k == .cell))) := by
    unfold swapsWith
    simp only [hb, Expr.pos]
    rfl
  rw [q]
  by_cases z : X.env.kindOf y = some .local
  · cases (X.env.kindOf y == some .local && py.line == pos.line && !(sc.names.any fun (n, k) => n == y && (k == .local || k == .cell))) with
    | true => exact .inl ⟨z, rfl⟩
    | false => exact .inr rfl
  · have z2 : (X.env.kindOf y == some .local) = false := by
      cases hk : X.env.kindOf y with
      | none => rfl
      | some k =>
        cases k <;> first | rfl | exact absurd hk z
    rw [z2]
    exact .inr rfl
theorem g_asg {tg : Tg} {t : Expr} (h : ckTg S none tg t = true) (hn : ∀ is, tg = .tp is → hx = none) : PG X t (rG g tg) := by
  cases tg with
  | nm i =>
    unfold ckTg at h
    split at h
    · rename_i x p e
      cases e
      rw [Bool.and_eq_true] at h
      refine g_name O.ok.nd ?_ (sto O h.2)
      rw [O.ok.N]
      exact of_decide_eq_true h.1
    · rename_i e
      cases e
    · cases h
  | tp is => exact g_any O.ok (O.ok.calm (hn is rfl)) (fun x => sto O) h
theorem st_asg {tg : Tg} {e : E} {t ex : Expr} {pos : Pos} (h1 : ckTg S none tg t = true) (h2 : asgB t ex = true) (h3 : ckE n e S ex = true) : PS X (.Assign [t] ex pos) (rS g T C hx W (.asg tg e)) := by
  have he := snd_E e O.ok h3
  by_cases hn : ∀ is, tg = .tp is → hx = none
  · have hg := g_asg O h1 hn
    cases t with
    | Name x p =>
      cases hc : noComp ex with
      | true => exact PS.weak (ps_asg he hg (no_sw O (t := some (.Name x p)) (l := pos.line) hc) rfl rfl) fun D σ H h => asg_wt O h
      | false =>
        have h2 : (noComp ex || isLc ex) = true := h2
        rw [hc, Bool.false_or] at h2
        cases ex with
        | ListComp ee gs sc lpos =>
          rcases lc_sw O (ee := ee) (gs := gs) (sc := sc) (pos := lpos) (py := p) (y := x) (l := pos.line) with ⟨hl, sw⟩ | sw
          · rcases lc_of h3 with ⟨elt, tg2, it, cs, own, rfl⟩ | rfl
            · by_cases hn2 : hx = none
              · have h30 := h3
                unfold ckE at h3
                split at h3
                · rename_i e1
                  cases e1
                  obtain ⟨h, k8⟩ := and2 h3
                  obtain ⟨h, k7⟩ := and2 h
                  obtain ⟨h, k6⟩ := and2 h
                  obtain ⟨h, k5⟩ := and2 h
                  obtain ⟨h, k4⟩ := and2 h
                  obtain ⟨h, k3⟩ := and2 h
                  obtain ⟨k1, k2⟩ := and2 h
                  obtain ⟨i, rfl, i1, i2⟩ := tg_nm h1
                  refine PS.weak (s_setLc O.ok (O.ok.calm hn2) (i := i) (by rw [O.ok.N]; exact i1) hl sw (snd_I it O.ok k1) k2 k3 (fun i m => by simpa using List.all_eq_true.mp k6 i m) k5 (fun X' O' => snd_Ts cs O' k8) (fun X' O' => snd_E elt O' k7)) fun D σ H h => ?_
                  obtain ⟨m, env, st, SR_, ER_, h⟩ := h
                  refine go_S O SR_ ER_ h.2 fun d s m1 H1 v e1 S1 E1 r1 z => ?_
                  exact z m1 H1 _ e1 S1 (E1.set i r1)
                · cases h3
              · exact ps_false fun D σ H ⟨m, env, st, _, _, _, h⟩ => hn2 h.1
            · exact ps_false fun D σ H ⟨m, env, st, _, _, _, h⟩ => h
          · exact PS.weak (ps_asg he hg sw rfl rfl) fun D σ H h => asg_wt O h
        | _ => cases h2
    | Tuple es k p =>
      have h2 : (noTupE ex && noComp ex) = true := h2
      obtain ⟨h2, hc⟩ := and2 h2
      refine PS.weak (ps_asg he hg (no_sw O (t := some (.Tuple es k p)) (l := pos.line) hc) ?_ rfl) fun D σ H h => asg_wt O h
      cases ex <;> first | rfl | cases h2
    | _ => cases h2
  · refine ps_false fun D σ H ⟨m, env, st, _, _, h⟩ => hn fun is e => ?_
    subst e
    exact h.1
theorem sw_pair {x y : Str} {px py pt : Pos} {ea eb : Expr} {kt k2 : Nat} {pt2 : Pos} (hx' : X.env.scope.names.lookup x = some .local) (hy : X.env.scope.names.lookup y = some .local) (hl : (py.line == px.line) = true) (hne : (x == y) = false) (hs : noStars [ea, eb] = true)
    (h1 : ([ea, eb].all (foldedForSure 8)) = false) (h2 : ([ea, eb].all (constantsAlone 8)) = false) : swappedStores [.Tuple [.Name x px, .Name y py] kt pt] (.Tuple [ea, eb] k2 pt2) X.env = pure (some [x, y]) := by
  have hb : X.env.blockKind = .function := by unfold PySem.Env.blockKind; rw [O.kind]; rfl
  have kx : X.env.kindOf x = some .local := hx'
  have ky : X.env.kindOf y = some .local := hy
  obtain ⟨s1, s2⟩ := and2 (show (noStar ea && noStars [eb]) = true from hs)
  obtain ⟨s2, _⟩ := and2 (show (noStar eb && true) = true from s2)
  have st : ([ea, eb].any fun | .Starred .. => true | _ => false) = false := by
    cases ea <;> first
      | (cases s1; done)
      | (cases eb <;> first | rfl | (cases s2; done))
  have ed : ([x, y] : List Str).eraseDups.length = 2 := by
    have e : ([x, y] : List Str).eraseDups = [x, y] := by
      have yx : (y == x) = false := by
        apply Bool.eq_false_iff.mpr
        intro z
        rw [eq_of_beq z] at hne
        simp at hne
      simp [List.eraseDups_cons, yx]
    rw [e]
    rfl
  have le : py.line = px.line := eq_of_beq hl
  unfold swappedStores
  dsimp only [Expr.pos, List.head?, Option.map, Option.getD, List.length_cons, List.length_nil]
  refine (if_neg ?_).trans ?_
  · rw [hb]; decide
  refine (if_neg (fun z => Bool.false_ne_true (st.symm.trans z))).trans ?_
  rw [h1, h2]
  simp only [List.filterMap_cons, List.filterMap_nil, kx, ky, le, BEq.rfl, Bool.and_self, if_true, ed]
  rfl
theorem st_asg2 {i j : Nat} {a b : E} {x y : Str} {px py pt : Pos} {ea eb : Expr} {kt k2 : Nat} {pt2 pos : Pos} (h1 : S.N[i]? = some x) (h2 : S.N[j]? = some y) (h3 : i ≠ j) (h4 : loB S x = true) (h5 : loB S y = true) (h6 : (py.line == px.line) = true) (h7 : (x == y) = false)
    (h8 : noStars [ea, eb] = true) (h9 : ([ea, eb].all (foldedForSure 8)) = false) (h10 : ([ea, eb].all (constantsAlone 8)) = false) (ha : PE X ea (rE g T C hx W a)) (hb : PE X eb (rE g T C hx W b)) :
    PS X (.Assign [.Tuple [.Name x px, .Name y py] kt pt] (.Tuple [ea, eb] k2 pt2) pos) (rS g T C hx W (.asg2 i j a b)) := by
  by_cases hn : hx = none
  · have lo : ∀ z, loB S z = true → X.env.scope.names.lookup z = some .local := fun z hz => by
      unfold loB at hz
      rw [O.ok.sc]
      split at hz
      · assumption
      · cases hz
    obtain ⟨s1, s2⟩ := and2 (show (noStar ea && noStars [eb]) = true from h8)
    obtain ⟨s2, _⟩ := and2 (show (noStar eb && true) = true from s2)
    refine PS.weak (ps_par (O.ok.calm hn) O.ok.nd (by rw [O.ok.N]; exact h1) (by rw [O.ok.N]; exact h2) h3 (lo x h4) (lo y h5) (a_cons O.ok s1 ha (a_cons O.ok s2 hb (a_nil O.ok))) (sw_pair O (lo x h4) (lo y h5) h6 h7 h8 h9 h10) rfl) fun D σ H ⟨m, env, st, SR_, ER_, _, h⟩ => ?_
    refine go_A O.ok SR_ ER_ (R := fun ds s1 => ∃ x y, ds = [x, y] ∧ (kEnd g m H W D).nx ((env.set i (some x)).set j (some y)) s1) (wpE_mono O.ok.MC a env st _ _ _ _ (fun d s z => wpE_mono O.ok.MC b env s _ _ _ _ (fun d2 s z => ⟨d, d2, rfl, z⟩) (fun _ _ z => xk O ER_ z) z) (fun _ _ z => xk O ER_ z) h) fun ds s1 m1 H1 vs e1 S1 E1 r1 ⟨dx, dy, ex, z⟩ => ?_
    subst ex
    obtain ⟨v, w, rfl, rv, rw'⟩ := r1.two
    exact ⟨v, w, rfl, z m1 H1 _ e1 S1 ((E1.set i rv).set j rw')⟩
  · exact ps_false fun D σ H ⟨m, env, st, _, _, h, _⟩ => hn h
theorem fld_set {m : Mp} {H : Hp} {st : Store} {d dv : D} {v y : V} {f : Nat} {x : Str} {σ : L2.St} {env : Env} {R : Hp → Prop} (hf : n.fd f = some x) (S1 : SR g m H st) (r : RD g m H d v) (ry : RD g m H dv y)
    (h : setfQ st d f dv fun s => ∀ m' H', Ext m m' H H' → SR g m' H' s → R H') : ∃ a c dx fs, v = .ref a ∧ H a = some (.ins (g.ca c) dx fs) ∧ clsOf st d = some c ∧ Cls X.K (g.ca c) ∧ NoAttr X.K (g.ca c) x ∧ fs.length < 1000 ∧ R (upd H a (.ins (g.ca c) dx (L2.putF x y fs))) := by
  unfold setfQ at h
  split at h
  · split at h
    · rename_i c fs e0
      obtain ⟨a, rfl, ea⟩ := rd_ref r
      obtain ⟨dx, vs, hH, rf, okc⟩ := S1.get ea e0
      have okc0 := okc
      rw [O.ok.top.okc] at okc
      obtain ⟨nm, hy⟩ := Option.isSome_iff_exists.mp okc
      have cl := (O.ok.top.cl c nm hy).2.cl
      have na := O.ok.top.noat c nm f x hy hf
      rw [← O.ok.K] at cl na
      have len : vs.length = fs.length := (Paired.length rf).symm
      have rf2 : RF g m H (putF f dv fs) (L2.putF x y vs) := by
        have nmi := O.ok.F.nmi
        have hf' : g.nm f = some x := by rw [O.ok.top.nm]; exact hf
        clear hH e0 h len
        induction rf with
        | nil => exact .cons ⟨hf', ry⟩ .nil
        | @cons p q ps qs hp t ih =>
          obtain ⟨w, u⟩ := q
          obtain ⟨k, e⟩ := p
          unfold putF L2.putF
          by_cases z : k = f
          · subst z
            have e2 : w = x := Option.some.inj (hp.1.symm.trans hf')
            subst e2
            rw [if_pos rfl, if_pos rfl]
            exact .cons ⟨hf', ry⟩ t
          · have ne : w ≠ x := fun e2 => z (nmi k f x (by rw [← e2]; exact hp.1) hf')
            rw [if_neg z, if_neg ne]
            exact .cons hp ih
      have e1 : Ext m m H (upd H a (.ins (g.ca c) dx (L2.putF x y vs))) := ext_mut (by rw [hH]; trivial)
      exact ⟨a, c, dx, vs, rfl, hH, by unfold clsOf; dsimp only; rw [e0], cl, na, by rw [len]; exact h.1, h.2 m _ e1 (S1.write (o' := .ins c (putF f dv fs)) ea e0 rfl rfl ⟨dx, _, upd_same, rf2.mono e1, okc0⟩)⟩
    · exact h.elim
  · exact h.elim
theorem st_setf {o e : E} {f : Nat} {eo ex : Expr} {x : Str} {p pos : Pos} (h1 : n.fd f = some x) (ho : PE X eo (rE g T C hx W o)) (he : PE X ex (rE g T C hx W e)) : PS X (.Assign [.Attribute eo x p] ex pos) (rS g T C hx W (.setf o f e)) := by
  refine PS.weak (ps_fld ho he (by cases ex <;> rfl)) fun D σ H ⟨m, env, st, SR_, ER_, h⟩ => ?_
  refine go_S O SR_ ER_ h fun d s1 m1 H1 y e1 S1 E1 r1 z => ?_
  refine go_S O S1 E1 (x_S O e1 z) fun d2 s2 m2 H2 v e2 S2 E2 r2 z => ?_
  obtain ⟨a, c, dx, fs, q1, q2, _, q3, q4, q5, q6⟩ := fld_set O (σ := σ) (env := env) (R := fun H => D.nx σ H) h1 S2 r2 (RD.mono e2 _ _ r1) (setfQ_mono (fun s z m3 H3 e3 S3 => z m3 H3 σ ((e1.trans e2).trans e3) S3 (E2.mono e3)) z)
  exact ⟨a, _, dx, fs, q1, q2, q3, q4, q5, q6⟩
theorem st_seti {o i e : E} {eo ei ex : Expr} {p pos : Pos} (h1 : ixB ei = true) (ho : PE X eo (rE g T C hx W o)) (hi : PE X ei (rE g T C hx W i)) (he : PE X ex (rE g T C hx W e)) : PS X (.Assign [.Subscript eo ei p] ex pos) (rS g T C hx W (.seti o i e)) := by
  have ha : ∀ v, assign (.Subscript eo ei p) X.env v = (do
      let ov ← holding [v] (eval eo X.env)
      let iv ← holding [v, ov] (eval ei X.env)
      standAt p
      holding [v, ov, iv] (setItem ov iv v)
      release [v, ov, iv] []) := by
    intro v
    cases ei <;> first | rfl | cases h1
  refine PS.weak (ps_asg he (pg_sub ho hi (set_any (g := g)) ha) (by cases ex <;> rfl) rfl rfl) fun D σ H ⟨m, env, st, SR_, ER_, h⟩ => ?_
  refine go_S O SR_ ER_ h fun d s1 m1 H1 y e1 S1 E1 r1 z => ?_
  show rE g T C hx W o σ H1 _
  refine go_S O S1 E1 (x_S O e1 z) fun d2 s2 m2 H2 v e2 S2 E2 r2 z => ?_
  refine go_S O S2 E2 (x_S O (e1.trans e2) z) fun d3 s3 m3 H3 w e3 S3 E3 r3 z => ?_
  exact ⟨m3, s3, d2, d3, d, S3, RD.mono e3 _ _ r2, r3, RD.mono (e2.trans e3) _ _ r1, setQ_mono (fun s z m4 H4 e4 S4 => z m4 H4 σ (((e1.trans e2).trans e3).trans e4) S4 (E3.mono e4)) z⟩
theorem st_augn {i : Nat} {op : Op} {e : E} {x : Str} {eop : Operator} {ex : Expr} {p pos : Pos} (h1 : S.N[i]? = some x) (h2 : locB S x = true) (h3 : opB op eop = true) (h4 : adB op = true) (he : PE X ex (rE g T C hx W e)) : PS X (.AugAssign (.Name x p) eop ex pos) (rS g T C hx W (.augn i op e)) := by
  have nx : X.N[i]? = some x := by rw [O.ok.N]; exact h1
  cases op with
  | add =>
    cases opB_ok h3
    refine PS.weak (ps_aug O.ok.nd nx (O.ok.loc h2) he ip_add (.inl (O.fn x))) fun De σ H ⟨m, env, st, SR_, ER_, h⟩ => ?_
    unfold wpS at h
    unfold getV at h
    split at h
    · rename_i d ed
      obtain ⟨v, e2, rv⟩ := ER_.at_ i d ed
      refine ⟨v, e2, ?_⟩
      refine go_S O SR_ ER_ h fun d2 s1 m1 H1 y e1 S1 E1 r1 z => ?_
      split at z
      · cases rd_int rv
        cases rd_int r1
        exact ⟨_, _, rfl, rfl, z m1 H1 _ e1 S1 (E1.set i rfl)⟩
      · contradiction
      · exact z.elim
    · exact h.elim
  | sub =>
    cases opB_ok h3
    refine PS.weak (ps_aug O.ok.nd nx (O.ok.loc h2) he ip_sub (.inl (O.fn x))) fun De σ H ⟨m, env, st, SR_, ER_, h⟩ => ?_
    unfold wpS at h
    unfold getV at h
    split at h
    · rename_i d ed
      obtain ⟨v, e2, rv⟩ := ER_.at_ i d ed
      refine ⟨v, e2, ?_⟩
      refine go_S O SR_ ER_ h fun d2 s1 m1 H1 y e1 S1 E1 r1 z => ?_
      split at z
      · contradiction
      · cases rd_int rv
        cases rd_int r1
        exact ⟨_, _, rfl, rfl, z m1 H1 _ e1 S1 (E1.set i rfl)⟩
      · exact z.elim
    · exact h.elim
  | _ => cases h4
theorem st_augf {o e : E} {f : Nat} {op : Op} {eo ex : Expr} {x : Str} {eop : Operator} {p pos : Pos} (h1 : n.fd f = some x) (h3 : opB op eop = true) (h4 : adB op = true) (ho : PE X eo (rE g T C hx W o)) (he : PE X ex (rE g T C hx W e)) : PS X (.AugAssign (.Attribute eo x p) eop ex pos) (rS g T C hx W (.augf o f op e)) := by
  cases op with
  | add =>
    cases opB_ok h3
    refine PS.weak (ps_fldaug ho he in_add) fun De σ H ⟨m, env, st, SR_, ER_, h⟩ => ?_
    refine go_S O SR_ ER_ h fun d s1 m1 H1 v e1 S1 E1 r1 z => ?_
    obtain ⟨a, c, dx, fs, v', dv, q1, q2, qc, q3, q4, q5, q6, q7⟩ := fld_get O.ok h1 S1 r1 z
    subst q1
    refine ⟨a, _, dx, fs, v', rfl, q2, q3, q4, q5, ?_⟩
    show rE g T C hx W e σ H1 _
    refine go_S O S1 E1 (x_S O e1 q7) fun d2 s2 m2 H2 y e2 S2 E2 r2 z => ?_
    have q6 := RD.mono e2 _ _ q6
    split at z
    · cases rd_int q6
      cases rd_int r2
      refine ⟨_, _, rfl, rfl, ?_⟩
      obtain ⟨a', c', dx', fs', p1, p2, p3, _, _, p5, p6⟩ := fld_set O (σ := σ) (env := env) (R := fun H => De.nx σ H) h1 S2 (RD.mono e2 _ _ r1) (show RD g m2 H2 (.int _) (.int _) from rfl) (setfQ_mono (fun s z m3 H3 e3 S3 => z m3 H3 σ ((e1.trans e2).trans e3) S3 (E2.mono e3)) z.2)
      cases p1
      have ce : c' = c := by
        have z1 := z.1
        rw [p3, qc] at z1
        exact Option.some.inj z1
      subst ce
      exact ⟨dx', fs', p2, p5, p6⟩
    · contradiction
    · exact z.elim
  | sub =>
    cases opB_ok h3
    refine PS.weak (ps_fldaug ho he in_sub) fun De σ H ⟨m, env, st, SR_, ER_, h⟩ => ?_
    refine go_S O SR_ ER_ h fun d s1 m1 H1 v e1 S1 E1 r1 z => ?_
    obtain ⟨a, c, dx, fs, v', dv, q1, q2, qc, q3, q4, q5, q6, q7⟩ := fld_get O.ok h1 S1 r1 z
    subst q1
    refine ⟨a, _, dx, fs, v', rfl, q2, q3, q4, q5, ?_⟩
    show rE g T C hx W e σ H1 _
    refine go_S O S1 E1 (x_S O e1 q7) fun d2 s2 m2 H2 y e2 S2 E2 r2 z => ?_
    have q6 := RD.mono e2 _ _ q6
    split at z
    · contradiction
    · cases rd_int q6
      cases rd_int r2
      refine ⟨_, _, rfl, rfl, ?_⟩
      obtain ⟨a', c', dx', fs', p1, p2, p3, _, _, p5, p6⟩ := fld_set O (σ := σ) (env := env) (R := fun H => De.nx σ H) h1 S2 (RD.mono e2 _ _ r1) (show RD g m2 H2 (.int _) (.int _) from rfl) (setfQ_mono (fun s z m3 H3 e3 S3 => z m3 H3 σ ((e1.trans e2).trans e3) S3 (E2.mono e3)) z.2)
      cases p1
      have ce : c' = c := by
        have z1 := z.1
        rw [p3, qc] at z1
        exact Option.some.inj z1
      subst ce
      exact ⟨dx', fs', p2, p5, p6⟩
    · exact z.elim
  | _ => cases h4
end
end
end Y
set_option linter.all false
set_option maxHeartbeats 4000000
set_option maxRecDepth 100000
namespace Y
open PySem PySem.Spec PyProof.Rows L2 RZ
section
variable {g : G} {T : Tab} {n : Nm} {C : Calls} {L : Nat} {hx : Option Exc} {W : WX} {S : Sta} {X : Cx}
section
variable (O : CxS g T n C L hx W S X)
include O
theorem st_exp {e : E} {ex : Expr} {pos : Pos} (h : noComp ex = true) (he : PE X ex (rE g T C hx W e)) : PS X (.Expr ex pos) (rS g T C hx W (.exp e)) := by
  refine PS.weak (ps_expr he (no_sw O h)) fun D σ H ⟨m, env, st, SR_, ER_, h⟩ => ?_
  exact go_S O SR_ ER_ h fun d s1 m1 H1 v e1 S1 E1 r1 z => z m1 H1 σ e1 S1 E1
theorem st_ret {e : E} {ex : Expr} {pos : Pos} (he : PE X ex (rE g T C hx W e)) : PS X (.Return (some ex) pos) (rS g T C hx W (.ret e)) := by
  refine PS.weak (ps_ret he) fun D σ H ⟨m, env, st, SR_, ER_, h⟩ => ?_
  exact go_S O SR_ ER_ h fun d s1 m1 H1 v e1 S1 E1 r1 z => z m1 H1 v e1 S1 r1
theorem st_retN {pos : Pos} : PS X (.Return none pos) (rS g T C hx W .retN) :=
  PS.weak ps_retN fun D σ H ⟨m, env, st, SR_, ER_, h⟩ => h m H .non (.refl _ _) SR_ rfl
theorem st_brk {pos : Pos} : PS X (.Break pos) (rS g T C hx W .brk) := PS.weak ps_break fun D σ H ⟨m, env, st, SR_, ER_, h⟩ => h m H σ (.refl _ _) SR_ ER_
theorem st_cnt {pos : Pos} : PS X (.Continue pos) (rS g T C hx W .cnt) := PS.weak ps_continue fun D σ H ⟨m, env, st, SR_, ER_, h⟩ => h m H σ (.refl _ _) SR_ ER_
theorem st_pas {pos : Pos} : PS X (.Pass pos) (rS g T C hx W .pas) := PS.weak ps_pass fun D σ H ⟨m, env, st, SR_, ER_, h⟩ => h m H σ (.refl _ _) SR_ ER_
theorem b_ext {b : B} {env : Env} {st : Store} {m m' : Mp} {H H' : Hp} {De : Ends} (e : Ext m m' H H') (h : wpB T C hx b env st (kEnd g m H W De)) : wpB T C hx b env st (kEnd g m' H' W De) := wpB_mono O.ok.MC b hx env st _ _ (kEnd_ext e) h
theorem go_ST {e : E} {σ : L2.St} {H : Hp} {m : Mp} {env : Env} {st : Store} {Q : Bool → Hp → Prop} {D : Ends} {R : Bool → Store → Prop} (SR_ : SR g m H st) (ER_ : ER g m H σ env) (h : wpT T C hx e env st R fun x s => (kEnd g m H W D).xc x env s)
    (k : ∀ b s m' H', Ext m m' H H' → SR g m' H' s → ER g m' H' σ env → R b s → Q b H') : rT g T C hx W e σ H Q :=
  go_T O.ok SR_ ER_ (wpT_mono O.ok.MC e env st _ _ _ _ (fun _ _ z => z) (fun _ _ z => xk O ER_ z) h) k
theorem st_if {c : E} {a b : B} {ec : Expr} {sa sb : List Stmt} {pos : Pos} (hc : PT X ec (rT g T C hx W c)) (ha : PSs X sa (rB g T C hx W a)) (hb : PSs X sb (rB g T C hx W b)) : PS X (.If ec sa sb pos) (rS g T C hx W (.ifS c a b)) := by
  refine PS.weak (ps_if hc ha hb) fun D σ H ⟨m, env, st, SR_, ER_, h⟩ => ?_
  refine go_ST O SR_ ER_ h fun k s1 m1 H1 e1 S1 E1 z => ?_
  cases k with
  | true =>
    rw [if_pos rfl] at z ⊢
    exact ⟨m1, env, s1, S1, E1, b_ext O e1 z⟩
  | false =>
    rw [if_neg Bool.false_ne_true] at z ⊢
    exact ⟨m1, env, s1, S1, E1, b_ext O e1 z⟩
theorem st_while {c : E} {b : B} {ec : Expr} {body : List Stmt} {pos : Pos} (hc : PT X ec (rT g T C hx W c)) (hb : PSs X body (rB g T C hx W b)) : PS X (.While ec body [] pos) (rS g T C hx W (.whl c b)) := by
  by_cases hn : hx = none
  · refine PS.weak (ps_while (O.own hn) hc hb) fun D σ H ⟨m, env, st, SR_, ER_, _, k, h⟩ => ?_
    refine ⟨fun k σ' H' => ∃ m' env' st', Ext m m' H H' ∧ SR g m' H' st' ∧ ER g m' H' σ' env' ∧ whlN (fun e s P => wpT T C hx c e s P fun x s1 => (kEnd g m H W D).xc x e s1) (fun e s k' => wpB T C hx b e s k') (kEnd g m H W D) k env' st', ⟨k, m, env, st, .refl _ _, SR_, ER_, h⟩, ?_⟩
    rintro k σ' H' ⟨m1, env1, st1, e1, S1, E1, h1⟩
    cases k with
    | zero => exact h1.elim
    | succ k =>
      unfold whlN at h1
      have h1 := wpT_mono O.ok.MC c env1 st1 _ _ _ _ (fun _ _ z => z) (fun _ _ z => (kEnd_ext e1).xc _ _ _ z) h1
      refine go_ST O S1 E1 h1 fun t s2 m2 H2 e2 S2 E2 z => ?_
      cases t with
      | true =>
        rw [if_pos rfl] at z ⊢
        refine ⟨fun σ' H' => ∃ m' env' st', Ext m m' H H' ∧ SR g m' H' st' ∧ ER g m' H' σ' env' ∧ whlN (fun e s P => wpT T C hx c e s P fun x s1 => (kEnd g m H W D).xc x e s1) (fun e s k' => wpB T C hx b e s k') (kEnd g m H W D) k env' st', fun σ' H' z => ⟨k, Nat.lt_succ_self k, z⟩, m2, env1, s2, S2, E2, ?_⟩
        have e12 := e1.trans e2
        refine wpB_mono O.ok.MC b hx env1 s2 _ _ ?_ z
        exact ⟨fun e s z m3 H3 σ3 e3 S3 E3 => ⟨m3, e, s, e12.trans e3, S3, E3, z⟩, (kEnd_ext (W := W) e12).rt, fun e s z m3 H3 σ3 e3 => z m3 H3 σ3 (e12.trans e3), fun e s z m3 H3 σ3 e3 S3 E3 => ⟨m3, e, s, e12.trans e3, S3, E3, z⟩, (kEnd_ext e12).xc⟩
      | false =>
        rw [if_neg Bool.false_ne_true] at z ⊢
        exact z m2 H2 σ' (e1.trans e2) S2 E2
  · exact ps_false fun D σ H ⟨m, env, st, _, _, h, _⟩ => hn h
theorem st_for {tg : Tg} {it : E} {b : B} {t iter : Expr} {body : List Stmt} {pos : Pos} (h1 : ckTg S none tg t = true) (h2 : noSet iter = true) (hi : PI X t iter (rI g T C hx W it)) (hb : PSs X body (rB g T C hx W b)) : PS X (.For t iter body [] pos) (rS g T C hx W (.forS tg it b)) := by
  by_cases hn : hx = none
  · refine PS.weak (ps_for (O.own hn) (O.ok.calm hn) hi (g_asg O h1 fun _ _ => hn) hb (noSet_fold h2)) fun D σ H ⟨m, env, st, SR_, ER_, _, h⟩ => ?_
    refine ⟨m, env, st, SR_, ER_, wpI_mono O.ok.MC it env st _ _ _ _ (fun j s1 ⟨k, hc⟩ m1 H1 J0 e1 S1 jr => ?_) (fun _ _ z => xk O ER_ z) h⟩
    let Inv0 : Nat → Nat → L2.St → Hp → Prop := fun i k σ' H' => ∃ m' env' st', Ext m1 m' H1 H' ∧ SR g m' H' st' ∧ ER g m' H' σ' env' ∧ forN j tg (fun e s k' => wpB T C hx b e s k') (kEnd g m H W D) k i env' st'
    refine ⟨Inv0, ⟨k, m1, env, s1, .refl _ _, S1, ER_.mono e1, hc⟩, ?_⟩
    rintro i k σ' H' ⟨m2, env2, st2, e2, S2, E2, h2⟩
    cases k with
    | zero => exact h2.elim
    | succ k =>
      unfold forN at h2
      obtain ⟨j1, j2⟩ := jr m2 H' st2 i e2 S2
      split at h2
      · exact h2.elim
      · rename_i ea
        exact .inl ⟨j1 ea, h2 m2 H' σ' (e1.trans e2) S2 E2⟩
      · rename_i d ea
        obtain ⟨go, jy⟩ := j2 d ea
        split at h2
        · exact h2.elim
        · rename_i env' eb
          refine .inr ⟨go, Inv0 (i + 1) k, fun σ' H' z => ⟨k, Nat.lt_succ_self k, z⟩, fun x H3 yl => ?_⟩
          obtain ⟨e3, S3, rx⟩ := jy x H3 yl
          refine ⟨m2, env2, env', d, E2.mono e3, rx, eb, fun σ3 E3 _ => ⟨m2, env', st2, S3, E3, ?_⟩⟩
          have e13 := e1.trans (e2.trans e3)
          refine wpB_mono O.ok.MC b hx env' st2 _ _ ?_ h2
          exact ⟨fun e s z m4 H4 σ4 e4 S4 E4 => ⟨m4, e, s, (e2.trans e3).trans e4, S4, E4, z⟩, (kEnd_ext (W := W) e13).rt, fun e s z m4 H4 σ4 e4 => z m4 H4 σ4 (e13.trans e4), fun e s z m4 H4 σ4 e4 S4 E4 => ⟨m4, e, s, (e2.trans e3).trans e4, S4, E4, z⟩, (kEnd_ext e13).xc⟩
  · exact ps_false fun D σ H ⟨m, env, st, _, _, h, _⟩ => hn h
theorem pmk_own0 {A0 : Addr} {bmB : List Value} {B0 newId initId : String} {x : Str} {p pos : Pos} (F : ExcBaseFacts B0 newId initId bmB) (q : PySem.W.excIn X.K A0 bmB newId = true) (gC : X.mg x = some (.ref A0)) (kC : PySem.W.keepIn X.K (.ref A0) = true) (r : Raises X (.ref A0)) (hg : Gl X x)
    (hdb : (x == ("__debug__" : Str)) = false) : PMk X (.Call (.Name x p) [] [] pos) (fun _ H Q => Q (.ref A0) none H) := by
  intro pins s σ H Q I h
  refine wpAny_Call_Name_kw (ld_glob I hg gC ?_ hdb)
  refine PySem.W.callWith_K0 I.kIn kC ?_
  show wpAny _ _ (call (.ref A0) []) _ _ _
  obtain ⟨bm, N, nm, qn, bs, hdct, sn, sub, ab, col, dd, k0, k1, k2, k3, k5, mN, hC, hN, hni, T⟩ := exc_obj I.kIn q
  refine wpAny_call_exc_subT F T hC hN hni (fun h' e hm => ?_) (Nat.zero_le _)
  exact mk_of I hm r h (I.hok.gone hm.new)
theorem st_raise0 {c : Nat} {x : Str} {p pos pos' : Pos} (h1 : n.ex c = some x) (h2 : gloB S x = true) (h3 : okN x = true) : PS X (.Raise (some (.Call (.Name x p) [] [] pos)) none pos') (rS g T C hx W (.rais c .nil)) := by
  by_cases hn : hx = none ∧ T.exf c = some none
  · obtain ⟨⟨bm, F, q⟩, k1, k2, k3⟩ := O.ok.top.ex0 c x h1 hn.2
    rw [← O.ok.K] at q k1 k2 k3
    refine PS.weak (ps_raise (O.ok.calm hn.1) O.ok.tk (pmk_own0 O F q (O.ok.top.exg c x h1) k1 (raises_own k2 k3) (O.ok.gl h2) (okN_1 h3))) fun D σ H ⟨m, env, st, SR_, ER_, _, h⟩ => ?_
    rw [hn.2] at h
    exact h m H σ _ none (.refl _ _) SR_ ER_ ⟨rfl, by rw [O.ok.top.oke, h1]; rfl, .inl ⟨rfl, rfl⟩⟩
  · refine ps_false fun D σ H ⟨m, env, st, _, _, h, h'⟩ => hn ⟨h, ?_⟩
    split at h'
    · assumption
    · rename_i e; cases e
    · exact h'.elim
theorem st_raise1 {c : Nat} {e : E} {ea : Expr} {x : Str} {p pos pos' : Pos} (h1 : n.ex c = some x) (h2 : gloB S x = true) (h3 : okN x = true) (h4 : noStar ea = true) (he : PE X ea (rE g T C hx W e)) : PS X (.Raise (some (.Call (.Name x p) [ea] [] pos)) none pos') (rS g T C hx W (.rais c (.cons e .nil))) := by
  by_cases hn : hx = none ∧ ∃ f, T.exf c = some (some f)
  · obtain ⟨hn, f, ef⟩ := hn
    obtain ⟨y, hy⟩ := Option.isSome_iff_exists.mp (O.ok.exi.fd c x f h1 ef)
    obtain ⟨T0, fI, fd, ps, i1, i2, F, b⟩ := O.ok.exi.ok c x f y h1 ef hy
    rw [← O.ok.K] at T0 i1 i2 F b
    have hL := O.ok.hL
    have hr : Room (1 + 1) X.A := (O.ok.room hn).mono (by omega)
    refine PS.weak (ps_raise (O.ok.calm hn) O.ok.tk (pmk_oex T0 i1 i2 F hr b .nil (fun pins σ H s e s' I c => passes_call (E := fun _ _ _ => False) O.ok.tk (fun _ _ _ _ z => z.elim) pins σ H s e s' I c) (O.ok.gl h2) (O.ok.top.exg c x h1) (a_cons O.ok h4 he (a_nil O.ok)) (okN_1 h3) (star_cons h4) rfl)) fun D σ H ⟨m, env, st, SR_, ER_, _, h⟩ => ?_
    rw [ef] at h
    refine go_A O.ok SR_ ER_ (R := fun ds s1 => ∃ d, ds = [d] ∧ (kEnd g m H W D).xc ⟨c, [(f, d)]⟩ env s1) (wpE_mono O.ok.MC e env st _ _ _ _ (fun d s z => ⟨d, rfl, z⟩) (fun _ _ z => xk O ER_ z) h) fun ds s1 m1 H1 vs e1 S1 E1 r1 ⟨d, ex, z⟩ => ?_
    subst ex
    obtain ⟨v, rfl, rv⟩ := r1.un1
    refine ⟨(by show 1 ≤ 1000; decide), fun a na => ⟨a, v, rfl, upd_same, fun dx nd ne => ⟨rfl, dx, [(y, v)], upd_same, ?_, ?_, ?_⟩⟩⟩
    · rw [upd_ne ne, upd_same]
    · rw [upd_ne ne] at nd
      exact nd
    · rw [upd_ne ne] at nd
      have eH : upd (del (upd (upd (upd H1 a (exo a (g.ca c) none)) dx (exd dx [(y, v)])) a (exo a (g.ca c) (some dx))) a) dx (.xd [(y, v)]) = upd H1 dx (.xd [(y, v)]) := by
        funext q
        by_cases z1 : q = dx
        · subst z1
          rw [upd_same, upd_same]
        · rw [upd_ne z1, upd_ne z1]
          by_cases z2 : q = a
          · subst z2
            rw [del_same, na]
          · rw [del_ne z2, upd_ne z2, upd_ne z1, upd_ne z2]
      rw [eH]
      have e2 : Ext m1 m1 H1 (upd H1 dx (.xd [(y, v)])) := ext_new nd fun _ _ z => z
      exact z m1 _ σ _ (some dx) (e1.trans e2) (S1.fresh nd) (E1.mono e2) ⟨rfl, by rw [O.ok.top.oke, h1]; rfl, .inr ⟨dx, _, rfl, upd_same, .cons ⟨by rw [O.ok.top.nm]; exact hy, RD.mono e2 _ _ rv⟩ .nil⟩⟩
  · refine ps_false fun D σ H ⟨m, env, st, _, _, h, h'⟩ => hn ⟨h, ?_⟩
    split at h'
    · rename_i e; cases e
    · exact ⟨_, by assumption⟩
    · exact h'.elim
end
end
end Y
set_option linter.all false
set_option maxHeartbeats 4000000
set_option maxRecDepth 100000
namespace Y
open PySem PySem.Spec PyProof.Rows L2 RZ
section
variable {g : G} {T : Tab} {n : Nm} {C : Calls} {L : Nat} {hx : Option Exc} {W : WX} {S : Sta} {X : Cx}
def hsOf (g : G) (T : Tab) (C : Calls) : Hs → List (Value × (Addr → Value → Option Addr → TS))
  | .nil => []
  | .cons c _ b hs => (.ref (g.ca c), fun _ _ _ D σ H => ∃ x : Exc, rB g T C (some x) (fun _ _ _ _ => False) b D σ H) :: hsOf g T C hs
section
variable (O : CxS g T n C L hx W S X)
include O
theorem su_ok {a : Addr} {pn : List (Addr × Obj)} {x : Exc} : CxS g T n C L (some x) (fun _ _ _ _ => False) S (X.suite a pn) where
  ok := {
    K := O.ok.K
    N := O.ok.N
    nd := O.ok.nd
    sc := O.ok.sc
    F := O.ok.F
    MC := O.ok.MC
    tk := fun u s' ⟨a, B, sI, pins, σ, H, cls, d, e, I, nb, up, sky, na, os, ag, w⟩ => w.elim
    hu := by
      have h := O.ok.hu
      exact h
    calm := fun h => nomatch h
    room := fun h => nomatch h
    top := O.ok.top
    cal := O.ok.cal
    hL := O.ok.hL
    exi := O.ok.exi }
  fn := O.fn
  kind := O.kind
  own := fun h => nomatch h
  stk := O.stk
  frm := O.frm
theorem tr_ok {W' : WX} {pn : List (Addr × Obj)} {xe : Value → Shared → Prop} (tk : Takes (X.tr pn xe) W') (po : PassesOwn (model X.prog X.w) X.A X.env xe) : CxS g T n C L hx W' S (X.tr pn xe) where
  ok := {
    K := O.ok.K
    N := O.ok.N
    nd := O.ok.nd
    sc := O.ok.sc
    F := O.ok.F
    MC := O.ok.MC
    tk := tk
    hu := O.ok.hu
    calm := O.ok.calm
    room := O.ok.room
    top := O.ok.top
    cal := O.ok.cal
    hL := O.ok.hL
    exi := O.ok.exi }
  fn := O.fn
  kind := O.kind
  own := fun _ => po
  stk := O.stk
  frm := O.frm
theorem many_of {m : Mp} {H : Hp} {De : Ends} {x : Exc} {cls : Value} {dx : Option Addr} : ∀ {hs : Hs} {hds : List ExceptHandler} {env : Env} {st : Store} {m' : Mp} {H' : Hp} {σ' : L2.St}, ckH n hs S hds = true → Ext m m' H H' → SR g m' H' st → ER g m' H' σ' env → RX g m' H' x cls dx →
    wpH T C hs x env st (kEnd g m H W De) → wMany X.K W De (hsOf g T C hs) cls dx σ' H'
  | .nil, hds, env, st, m', H', σ', hc, e, S1, E1, R1, h => h m' H' σ' cls dx e S1 E1 R1
  | .cons c nm b hs, hds, env, st, m', H', σ', hc, e, S1, E1, R1, h => by
    unfold ckH at hc
    split at hc
    · obtain ⟨hc, k6⟩ := and2 hc
      obtain ⟨hc, k5⟩ := and2 hc
      obtain ⟨hc, k4⟩ := and2 hc
      obtain ⟨hc, k3⟩ := and2 hc
      obtain ⟨k1, k2⟩ := and2 hc
      have k1 := of_decide_eq_true k1
      have r1 := R1.1
      have r2 := R1.2.1
      rw [O.ok.top.oke] at r2
      obtain ⟨y, hy⟩ := Option.isSome_iff_exists.mp r2
      have ex := O.ok.top.exm x.cls c y _ hy k1
      have enm : nm = none := by
        cases nm with
        | none => rfl
        | some i => cases k4
      subst enm
      unfold wpH at h
      refine ⟨T.sub x.cls c, by rw [O.ok.K, r1]; exact ex, fun hb a na => ?_, fun hb => ?_⟩
      · rw [if_pos hb] at h
        refine ⟨x, m', env, st, S1, E1, wpB_mono O.ok.MC b _ env st _ _ ?_ h⟩
        exact ⟨fun e' s z m2 H2 σ2 e2 S2 E2 => z m2 H2 σ2 (e.trans e2) S2 E2, fun d s z m2 H2 v e2 S2 r => z m2 H2 v (e.trans e2) S2 r, fun _ _ z => z.elim, fun _ _ z => z.elim, fun _ _ _ z => z.elim⟩
      · rw [if_neg (by rw [hb]; exact Bool.false_ne_true)] at h
        exact many_of k6 e S1 E1 R1 h
    · cases hc
theorem st_try {b : B} {hs : Hs} {body : List Stmt} {h0 : ExceptHandler} {hds : List ExceptHandler} {pos : Pos} (hc : ckH n hs S (h0 :: hds) = true)
    (hb : ∀ {W' : WX} {X' : Cx}, CxS g T n C L hx W' S X' → PSs X' body (rB g T C hx W' b)) (hh : HdsOk X (h0 :: hds) (hsOf g T C hs)) : PS X (.Try body (h0 :: hds) [] [] pos) (rS g T C hx W (.tryS b hs)) := by
  by_cases hn : hx = none
  · refine PS.weak (ps_try_many (tb := fun W' => rB g T C hx W' b) O.stk O.frm O.ok.tk (fun W' pn xe tk po => hb (tr_ok O tk po)) hh) fun D σ H ⟨m, env, st, SR_, ER_, _, h⟩ => ?_
    refine ⟨m, env, st, SR_, ER_, wpB_mono O.ok.MC b hx env st _ _ ?_ h⟩
    exact ⟨fun _ _ z => z, fun _ _ z => z, fun _ _ z => z, fun _ _ z => z, fun x e s z m' H' σ' cls dx e1 S1 E1 R1 => many_of O hc e1 S1 E1 R1 z⟩
  · exact ps_false fun D σ H ⟨m, env, st, _, _, h, _⟩ => hn h
end
theorem ckR_nil {S : Sta} {args : List Expr} (h : ckR n .nil S args = true) : args = [] := by
  cases args with
  | nil => rfl
  | cons a r => cases h
theorem ckR_one {S : Sta} {e : E} {args : List Expr} (h : ckR n (.cons e .nil) S args = true) : ∃ ea, args = [ea] ∧ ckE n e S ea = true := by
  cases args with
  | nil => cases h
  | cons a r =>
    cases r with
    | nil => exact ⟨a, rfl, h⟩
    | cons _ _ => cases h
mutual
theorem snd_S : ∀ (s : Y.S) {hx : Option Exc} {W : WX} {S : Sta} {X : Cx} {x : Stmt}, CxS g T n C L hx W S X → ckS n s S x = true → PS X x (rS g T C hx W s)
  | .asg tg e, hx, W, S, X, x, O, h => by
    unfold ckS at h
    split at h
    · obtain ⟨h, h3⟩ := and2 h
      obtain ⟨h1, h2⟩ := and2 h
      exact st_asg O h1 h2 h3
    · cases h
  | .asg2 i j a b, hx, W, S, X, x, O, h => by
    unfold ckS at h
    split at h
    · obtain ⟨h, k12⟩ := and2 h
      obtain ⟨h, k11⟩ := and2 h
      obtain ⟨h, k10⟩ := and2 h
      obtain ⟨h, k9⟩ := and2 h
      obtain ⟨h, k8⟩ := and2 h
      obtain ⟨h, k7⟩ := and2 h
      obtain ⟨h, k6⟩ := and2 h
      obtain ⟨h, k5⟩ := and2 h
      obtain ⟨h, k4⟩ := and2 h
      obtain ⟨h, k3⟩ := and2 h
      obtain ⟨k1, k2⟩ := and2 h
      rw [Bool.not_eq_true'] at k7 k9 k10
      exact st_asg2 O (of_decide_eq_true k1) (of_decide_eq_true k2) (of_decide_eq_true k3) k4 k5 k6 k7 k8 k9 k10 (snd_E a O.ok k11) (snd_E b O.ok k12)
    · cases h
  | .setf o f e, hx, W, S, X, x, O, h => by
    unfold ckS at h
    split at h
    · obtain ⟨h, h3⟩ := and2 h
      obtain ⟨h1, h2⟩ := and2 h
      exact st_setf O (of_decide_eq_true h1) (snd_E o O.ok h2) (snd_E e O.ok h3)
    · cases h
  | .seti o i e, hx, W, S, X, x, O, h => by
    unfold ckS at h
    split at h
    · obtain ⟨h, h4⟩ := and2 h
      obtain ⟨h, h3⟩ := and2 h
      obtain ⟨h1, h2⟩ := and2 h
      exact st_seti O h1 (snd_E o O.ok h2) (snd_E i O.ok h3) (snd_E e O.ok h4)
    · cases h
  | .augn i op e, hx, W, S, X, x, O, h => by
    unfold ckS at h
    split at h
    · obtain ⟨h, h5⟩ := and2 h
      obtain ⟨h, h4⟩ := and2 h
      obtain ⟨h, h3⟩ := and2 h
      obtain ⟨h1, h2⟩ := and2 h
      exact st_augn O (of_decide_eq_true h1) h2 h3 h4 (snd_E e O.ok h5)
    · cases h
  | .augf o f op e, hx, W, S, X, x, O, h => by
    unfold ckS at h
    split at h
    · obtain ⟨h, h5⟩ := and2 h
      obtain ⟨h, h4⟩ := and2 h
      obtain ⟨h, h3⟩ := and2 h
      obtain ⟨h1, h2⟩ := and2 h
      exact st_augf O (of_decide_eq_true h1) h2 h3 (snd_E o O.ok h4) (snd_E e O.ok h5)
    · cases h
  | .exp e, hx, W, S, X, x, O, h => by
    unfold ckS at h
    split at h
    · obtain ⟨h1, h2⟩ := and2 h
      exact st_exp O h1 (snd_E e O.ok h2)
    · cases h
  | .ret e, hx, W, S, X, x, O, h => by
    unfold ckS at h
    split at h
    · exact st_ret O (snd_E e O.ok h)
    · cases h
  | .retN, hx, W, S, X, x, O, h => by
    unfold ckS at h
    split at h
    · exact st_retN O
    · cases h
  | .ifS c a b, hx, W, S, X, x, O, h => by
    unfold ckS at h
    split at h
    · obtain ⟨h, h3⟩ := and2 h
      obtain ⟨h1, h2⟩ := and2 h
      exact st_if O (snd_T c O.ok h1).1 (snd_B a O h2) (snd_B b O h3)
    · cases h
  | .forS tg it b, hx, W, S, X, x, O, h => by
    unfold ckS at h
    split at h
    · obtain ⟨h, h4⟩ := and2 h
      obtain ⟨h, h3⟩ := and2 h
      obtain ⟨h1, h2⟩ := and2 h
      exact st_for O h1 h3 (snd_I it O.ok h2) (snd_B b O h4)
    · cases h
  | .whl c b, hx, W, S, X, x, O, h => by
    unfold ckS at h
    split at h
    · obtain ⟨h1, h2⟩ := and2 h
      exact st_while O (snd_T c O.ok h1).1 (snd_B b O h2)
    · cases h
  | .brk, hx, W, S, X, x, O, h => by
    unfold ckS at h
    split at h
    · exact st_brk O
    · cases h
  | .cnt, hx, W, S, X, x, O, h => by
    unfold ckS at h
    split at h
    · exact st_cnt O
    · cases h
  | .pas, hx, W, S, X, x, O, h => by
    unfold ckS at h
    split at h
    · exact st_pas O
    · cases h
  | .rais c .nil, hx, W, S, X, x, O, h => by
    unfold ckS at h
    split at h
    · obtain ⟨h, h4⟩ := and2 h
      obtain ⟨h, h3⟩ := and2 h
      obtain ⟨h, h2⟩ := and2 h
      obtain ⟨h1, h0⟩ := and2 h
      obtain rfl := ckR_nil h4
      exact st_raise0 O (of_decide_eq_true h1) h0 h2
    · cases h
  | .rais c (.cons e .nil), hx, W, S, X, x, O, h => by
    unfold ckS at h
    split at h
    · obtain ⟨h, h4⟩ := and2 h
      obtain ⟨h, h3⟩ := and2 h
      obtain ⟨h, h2⟩ := and2 h
      obtain ⟨h1, h0⟩ := and2 h
      obtain ⟨ea, rfl, h5⟩ := ckR_one h4
      exact st_raise1 O (of_decide_eq_true h1) h0 h2 (and2 h3).1 (snd_E e O.ok h5)
    · cases h
  | .rais c (.cons _ (.cons _ _)), hx, W, S, X, x, O, h => ps_false fun D σ H ⟨m, env, st, _, _, _, h'⟩ => by
      split at h'
      · rename_i q; cases q
      · rename_i q; cases q
      · exact h'
  | .tryS b hs, hx, W, S, X, x, O, h => by
    unfold ckS at h
    split at h
    · obtain ⟨h1, h2⟩ := and2 h
      exact st_try O h2 (fun O' => snd_B b O' h1) (snd_H hs O h2)
    · cases h
  | .bad, hx, W, S, X, x, O, h => ps_false fun D σ H ⟨m, env, st, _, _, h'⟩ => h'
  | .del _ _, hx, W, S, X, x, O, h => by
    unfold ckS at h
    cases h
theorem snd_B : ∀ (b : B) {hx : Option Exc} {W : WX} {S : Sta} {X : Cx} {l : List Stmt}, CxS g T n C L hx W S X → ckB n b S l = true → PSs X l (rB g T C hx W b)
  | .nil, hx, W, S, X, l, O, h => by
    unfold ckB at h
    split at h
    · exact PSs.weak pss_nil fun D σ H ⟨m, env, st, S1, E1, h⟩ => h m H σ (.refl _ _) S1 E1
    · cases h
  | .cons s b, hx, W, S, X, l, O, h => by
    unfold ckB at h
    split at h
    · obtain ⟨h1, h2⟩ := and2 h
      refine PSs.weak (pss_cons (snd_S s O h1) (snd_B b O h2)) fun D σ H ⟨m, env, st, S1, E1, h⟩ => ?_
      unfold wpB at h
      refine ⟨m, env, st, S1, E1, wpS_mono O.ok.MC s hx env st _ _ ?_ h⟩
      exact ⟨fun e s' z m2 H2 σ2 e2 S2 E2 => ⟨m2, e, s', S2, E2, wpB_mono O.ok.MC b hx e s' _ _ (kEnd_ext e2) z⟩, fun _ _ z => z, fun _ _ z => z, fun _ _ z => z, fun _ _ _ z => z⟩
    · cases h
theorem snd_H : ∀ (hs : Hs) {hx : Option Exc} {W : WX} {S : Sta} {X : Cx} {l : List ExceptHandler}, CxS g T n C L hx W S X → ckH n hs S l = true → HdsOk X l (hsOf g T C hs)
  | .nil, hx, W, S, X, l, O, h => by
    unfold ckH at h
    split at h
    · exact .nil
    · cases h
  | .cons c nm b hs, hx, W, S, X, l, O, h => by
    unfold ckH at h
    split at h
    · obtain ⟨h, k6⟩ := and2 h
      obtain ⟨h, k5⟩ := and2 h
      obtain ⟨h, k4⟩ := and2 h
      obtain ⟨h, k3⟩ := and2 h
      obtain ⟨k1, k2⟩ := and2 h
      refine .cons ⟨O.ok.gl k2, okN_1 k3, .inl (O.ok.top.exg c _ (of_decide_eq_true k1))⟩ (fun a oe cls d pn _ _ => ?_) (snd_H hs O k6)
      exact ⟨fun pins s σ H D I ⟨x, q⟩ => (snd_B b (su_ok O (x := x)) k5).run pins s σ H D I q⟩
    · cases h
end
end
end Y
set_option linter.all false
set_option maxHeartbeats 4000000
set_option maxRecDepth 100000
namespace Y
open PySem PySem.Spec PyProof.Rows L2 RZ
def DefAt (g : G) (n : Nm) (f : Nat) (fn : Fn) : Prop := ∃ (x qual : Str) (params : Arguments) (body : List Stmt) (scope : Scope) (N ps : List Str) (dvs : List V) (kws : List (Str × V)) (fd : FuncData),
  FunD g.K x qual params body scope dvs kws (g.fa f) fd ∧ FnScope N ps scope ∧ ps.length = fn.np ∧ N.length = fn.ns ∧ ckB n fn.body ⟨N, scope⟩ body = true ∧ Binds g.K fd ps [] ∧
  (n.df f ≠ [] → ∃ ds dvs, Vals dvs ds ∧ Binds g.K fd ps ds ∧ ∀ m H, RDs g m H (n.df f) dvs)
structure TopOk (g : G) (T : Tab) (n : Nm) (P : Program) (w : World) (mg : Str → Option Value) (base : Heap) : Prop where
  top : TopAt g T n mg
  vf : Vf g T w
  exi : ExiAt g T n P w mg base
  df : ∀ f fn, T.fn f = some fn → DefAt g n f fn
section
variable {g : G} {T : Tab} {n : Nm} {P : Program} {w : World} {mg : Str → Option Value} {base : Heap}
theorem er_start {m : Mp} {H : Hp} : ∀ {ds : List D} {vs : List V} {a b : Nat}, RDs g m H ds vs → a = b → ER g m H (vs.map some ++ List.replicate a none) (ds.map some ++ List.replicate b none) := fun {ds vs a b} r e => by
  subst e
  refine ⟨by simp [r.length], fun i d q => ?_⟩
  by_cases l : i < ds.length
  · rw [List.getElem?_append_left (by simpa using l), List.getElem?_map] at q
    obtain ⟨d', h1, h2⟩ := Option.map_eq_some_iff.mp q
    cases h2
    obtain ⟨v, h3, h4⟩ := r.get h1
    refine ⟨v, ?_, h4⟩
    rw [List.getElem?_append_left (by simpa [r.length] using l), List.getElem?_map, h3]
    rfl
  · rw [List.getElem?_append_right (by simpa using l)] at q
    have q2 := List.mem_of_getElem? q
    rw [List.mem_replicate] at q2
    cases q2.2
theorem fn_ok (K : TopOk g T n P w mg base) {k f : Nat} (ih : ∀ (f : Nat) (ds : List D) (st : Store) (Q : QE) (E0 : QX), Call T k f ds st Q E0 → CalAt g n P w mg base (2 * k + 2) (Call T k) f) {fn : Fn} (ef : T.fn f = some fn)
    {x qual : Str} {params : Arguments} {body : List Stmt} {scope : Scope} {N ps : List Str} {dvs : List V} {kws : List (Str × V)} {fd : FuncData} (F : FunD g.K x qual params body scope dvs kws (g.fa f) fd) (Sc : FnScope N ps scope) (hp : ps.length = fn.np) (hN : N.length = fn.ns)
    (hc : ckB n fn.body ⟨N, scope⟩ body = true) : FnOk P w g.K mg base (L2.CX P w) ((2 * k + 3) + 1) (g.fa f) fd ps (spF g (Call T (k + 1)) f) := by
  refine F.ok Sc (fun vs H Q E z => ?_) fun cdv A outer s H vs Q E hr z => ?_
  · obtain ⟨m, st, ds, S1, rd, z⟩ := z
    unfold Call at z
    rw [ef] at z
    rw [rd.length, z.1, hp]
  · obtain ⟨m, st, ds, S1, rd, z⟩ := z
    unfold Call at z
    rw [ef] at z
    have O : CxS g T n (Call T k) (2 * k + 2) none (fun cls d _ H => E cls d H) ⟨N, scope⟩ (cxOf (L2.CX P w) P w g.K mg base N qual scope (g.fa f) cdv A outer s H E) := {
      ok := {
        K := rfl
        N := rfl
        nd := Sc.nd
        sc := rfl
        F := K.vf
        MC := Call_mono T k
        tk := takes_of rfl rfl rfl rfl
        hu := hr.units
        calm := fun _ => rfl
        room := fun _ => hr
        top := K.top
        cal := ih
        hL := by omega
        exi := K.exi }
      fn := fun _ => rfl
      kind := Sc.kind
      own := fun _ => passes_of rfl
      stk := rfl
      frm := rfl }
    refine ⟨rB g T (Call T k) none (fun cls d _ H => E cls d H) fn.body, snd_B fn.body O hc, m, _, st, S1, er_start (b := fn.ns - fn.np) rd (by rw [hN, rd.length, z.1]), wpB_mono (Call_mono T k) _ _ _ _ _ _ ?_ z.2⟩
    exact ⟨fun e s' z m2 H2 σ2 e2 S2 _ => z m2 H2 .non e2 S2 rfl, fun d s' z m2 H2 v e2 S2 r => z m2 H2 v e2 S2 r, fun _ _ z => z.elim, fun _ _ z => z.elim, fun x e s' z m2 H2 σ2 c d e2 S2 _ r => z m2 H2 c d e2 S2 r⟩
theorem all_ok (K : TopOk g T n P w mg base) : ∀ (k f : Nat) (ds : List D) (st : Store) (Q : QE) (E0 : QX), Call T k f ds st Q E0 → CalAt g n P w mg base (2 * k + 2) (Call T k) f
  | 0, _, _, _, _, _, h => h.elim
  | k + 1, f, ds, st, Q, E0, h => by
    have ih := all_ok K k
    cases ef : T.fn f with
    | none =>
      unfold Call at h
      rw [ef] at h
      exact h.elim
    | some fn =>
      obtain ⟨x, qual, params, body, scope, N, ps, dvs, kws, fd, F, Sc, hp, hN, hc, b, b2⟩ := K.df f fn ef
      refine ⟨fd, ps, ?_, b, b2⟩
      exact fn_ok K ih ef F Sc hp hN hc
def st0 (ns : List Int) : Store := [.fro (ns.map D.int)]
theorem rds_ints {m : Mp} {H : Hp} : ∀ ns : List Int, RDs g m H (ns.map D.int) (ns.map V.int)
  | [] => rfl
  | _ :: ns => .cons rfl (rds_ints ns)
theorem sp_law {k f : Nat} {H : Hp} {a : Addr} {ns : List Int} (ho : Only H) (hs : SqL g.K H a (ns.map V.int)) (h : Call T k f [.ref 0] (st0 ns) (fun d _ => d = .bl true) fun _ _ => False) : spF g (Call T k) f [.ref a] H (fun v _ => v = .bl true) fun _ _ _ => False := by
  refine ⟨fun h => if h = 0 then some a else none, st0 ns, [.ref 0], ⟨fun h o q => ?_, fun h l => ?_, fun h h' b e e' _ _ => ?_⟩, .one ⟨a, rfl, rfl⟩, Call_mono T k _ _ _ _ _ _ _ (fun d s z m' H' v e S1 r => ?_) (fun _ _ z => z.elim) h⟩
  · cases h with
    | zero =>
      cases q
      refine ⟨a, rfl, ns.map V.int, ?_, rds_ints ns⟩
      rcases hs with (e | ⟨o, e⟩) | e
      · rcases ho a with z | ⟨o, xs, z⟩
        · rw [z] at e; cases e
        · rw [z] at e; cases e
      · exact .inl ⟨o, e⟩
      · exact .inr e
    | succ h => cases q
  · cases h with
    | zero => exact absurd (show 1 ≤ 0 from l) (by decide)
    | succ h => rfl
  · cases h with
    | zero =>
      cases h' with
      | zero => rfl
      | succ h' => cases e'
    | succ h => cases e
  · subst z
    exact r
end
end Y
set_option linter.all false
set_option maxHeartbeats 4000000
set_option maxRecDepth 100000
namespace Y
open PySem PySem.Spec PyProof.Rows L2 RZ
theorem zip_some : ∀ {ps : List Str} {us : List Value} {x : Str}, us.length = ps.length → x ∈ ps → ((ps.zip us).lookup x).isSome = true
  | p :: ps, u :: us, x, hl, hx => by
    rw [List.zip_cons_cons, List.lookup_cons]
    cases e : x == p with
    | true => rfl
    | false =>
      refine zip_some (Nat.succ.inj hl) ?_
      cases hx with
      | head => rw [beq_self_eq_true] at e; cases e
      | tail _ m => exact m
theorem zip_map : ∀ {ps : List Str} {us : List Value} (l : List (Str × Value)), us.length = ps.length → ps.Nodup → (∀ x ∈ ps, l.lookup x = (ps.zip us).lookup x) → ps.filterMap (fun n => (l.lookup n).map (n, ·)) = ps.zip us
  | [], _, _, _, _, _ => by simp
  | p :: ps, u :: us, l, hl, nd, h => by
    have h0 : l.lookup p = some u := by
      rw [h p List.mem_cons_self, List.zip_cons_cons, List.lookup_cons, beq_self_eq_true]
    rw [List.filterMap_cons, h0, List.zip_cons_cons]
    refine congrArg ((p, u) :: ·) (zip_map l (Nat.succ.inj hl) (List.nodup_cons.mp nd).2 fun x hx => ?_)
    rw [h x (List.mem_cons_of_mem _ hx), List.zip_cons_cons, List.lookup_cons]
    have ne : (x == p) = false := by
      apply Bool.eq_false_iff.mpr
      intro z
      rw [eq_of_beq z] at hx
      exact (List.nodup_cons.mp nd).1 hx
    rw [ne]
theorem bind_gen {fd : FuncData} {ps : List Str} {us : List Value} (h1 : fd.params.posonlyargs = []) (h2 : fd.params.args.map (·.arg) = ps) (h3 : fd.params.kwonlyargs = []) (h4 : fd.params.vararg = none) (h5 : fd.params.kwarg = none) (h6 : fd.defaults = .none) (nd : ps.Nodup) (hl : us.length = ps.length) :
    bindArgs fd ⟨us, []⟩ = pure (ps.zip us) := by
  have sq : seqItems? fd.defaults = pure none := by
    rw [h6]
    rfl
  have miss : (ps.filter fun n => ((ps.zip us).lookup n).isNone) = [] := by
    rw [List.filter_eq_nil_iff]
    intro x hx
    have q := zip_some hl hx
    cases e : (ps.zip us).lookup x with
    | none => rw [e] at q; cases q
    | some v => simp
  have fm := zip_map (ps.zip us) hl nd fun _ _ => rfl
  unfold bindArgs
  simp only [h1, h2, h3, h4, h5, sq, List.map_nil, List.nil_append, List.append_nil, List.forIn_nil, pure_bind, Option.getD_none, List.length_nil, Nat.sub_zero, Nat.zero_sub, List.drop_nil, List.drop_zero, List.take_length, miss, List.isEmpty_nil, hl, Nat.lt_irrefl, List.zip_nil_right, fm, gt_iff_lt, decide_false, Bool.false_and, Option.isNone_none, Bool.not_true, Bool.false_eq_true, if_false]
end Y
set_option linter.all false
set_option maxHeartbeats 4000000
set_option maxRecDepth 100000
namespace Y
open PySem PySem.Spec PyProof.Rows L2 RZ
structure Fd where
  d : He.DefD
  N : List Str
  ps : List Str
  fn : Fn
  df : List D := []
structure Ld where
  fds : List Fd
  cls : List (Str × Option (Option Nat))
  flds : List Str
  gls : List (Str × D)
  mts : List (Nat × Nat × Str)
  mks : List (Nat × Nat)
  xis : List (Nat × He.DefD × Str × Str)
  subs : List (Nat × Nat)
namespace Ld
variable (L : Ld)
def tab : Tab where
  fn f := (L.fds[f]?).map (·.fn)
  glo i := (L.gls[i]?).map (·.2)
  kon _ := []
  exf c := match L.cls[c]? with
    | some (_, some f) => some f
    | _ => none
  sub c d := L.subs.contains (c, d)
def cln (c : Nat) : Str := match L.cls[c]? with
  | some (x, _) => x
  | none => ""
def nm : Nm where
  fn f := match L.fds[f]? with
    | some d => (match d.d.at_.2 with
      | none => some d.d.at_.1
      | some _ => none)
    | none => none
  gl i := (L.gls[i]?).map (·.1)
  cl c := match L.cls[c]? with
    | some (x, none) => some x
    | _ => none
  ex c := match L.cls[c]? with
    | some (x, some _) => some x
    | _ => none
  fd f := L.flds[f]?
  mk_ c := L.mks.lookup c
  df f := match L.fds[f]? with
    | some d => d.df
    | none => []
  mt c f := (L.mts.find? fun p => p.1 == c && p.2.1 == f).map (·.2.2)
def at_ (f : Nat) : Str × Option Str := match L.fds[f]? with
  | some d => d.d.at_
  | none => ("", none)
def g (K : PySem.W.Frag) : G where
  K := K
  fa f := He.fAd K (L.at_ f)
  ca c := He.ga K (L.cln c)
  ka _ := 0
  nm := L.nm.fd
  okc c := (L.nm.cl c).isSome
  oke c := (L.nm.ex c).isSome
end Ld
def dvB (K : PySem.W.Frag) : Nat → D → Value → Bool
  | _, .non, .none => true
  | _, .bl b, .bool c => b == c
  | _, .int i, .int j _ => decide (i = j)
  | _, .str x, .str y _ => decide (y = ⟨x.toArray⟩)
  | n + 1, .tup ds, .ref a => (match K.lookup a with
    | some ⟨.type c, _, .seq its _, _⟩ => decide (c = "tuple") && decide (its.size ≤ sizeLine) && decide (ds.length = its.toList.length) && ((ds.zip its.toList).all fun p => dvB K n p.1 p.2)
    | _ => false)
  | _, _, _ => false
theorem dvB_ok {K : PySem.W.Frag} {g : G} (hK : g.K = K) : ∀ (n : Nat) (d : D) (u : Value), dvB K n d u = true → ∃ v, RelV v u ∧ ∀ m H, RD g m H d v := by
  have list : ∀ (n : Nat), (∀ (d : D) (u : Value), dvB K n d u = true → ∃ v, RelV v u ∧ ∀ m H, RD g m H d v) → ∀ (ds : List D) (us : List Value), ds.length = us.length → ((ds.zip us).all fun p => dvB K n p.1 p.2) = true → ∃ vs, Vals vs us ∧ ∀ m H, RDs g m H ds vs := by
    intro n hn ds
    induction ds with
    | nil =>
      intro us l _
      have e : us = [] := List.eq_nil_of_length_eq_zero l.symm
      subst e
      exact ⟨[], .nil, fun _ _ => rfl⟩
    | cons d ds ih =>
      intro us l h
      cases us with
      | nil => cases l
      | cons u us =>
        rw [List.zip_cons_cons, List.all_cons, Bool.and_eq_true] at h
        obtain ⟨v, h1, h2⟩ := hn d u h.1
        obtain ⟨vs, h3, h4⟩ := ih us (Nat.succ.inj l) h.2
        exact ⟨v :: vs, .cons h1 h3, fun m H => .cons (h2 m H) (h4 m H)⟩
  intro n
  induction n with
  | zero =>
    intro d u h
    unfold dvB at h
    split at h
    · exact ⟨.non, rfl, fun _ _ => rfl⟩
    · exact ⟨.bl _, by rw [eq_of_beq h]; rfl, fun _ _ => rfl⟩
    · exact ⟨.int _, ⟨_, by rw [of_decide_eq_true h]⟩, fun _ _ => rfl⟩
    · exact ⟨.str _, ⟨_, by rw [of_decide_eq_true h]⟩, fun _ _ => rfl⟩
    · rename_i e; cases e
    · cases h
  | succ n ih =>
    intro d u h
    unfold dvB at h
    split at h
    · exact ⟨.non, rfl, fun _ _ => rfl⟩
    · exact ⟨.bl _, by rw [eq_of_beq h]; rfl, fun _ _ => rfl⟩
    · exact ⟨.int _, ⟨_, by rw [of_decide_eq_true h]⟩, fun _ _ => rfl⟩
    · exact ⟨.str _, ⟨_, by rw [of_decide_eq_true h]⟩, fun _ _ => rfl⟩
    · rename_i e
      cases e
      split at h
      · rename_i lk
        simp only [Bool.and_eq_true, decide_eq_true_eq] at h
        obtain ⟨⟨⟨h1, h2⟩, h3⟩, h4⟩ := h
        obtain ⟨vs, r, k⟩ := list n ih _ _ h3 h4
        refine ⟨.ref _, rfl, fun m' H => ⟨_, vs, rfl, .inr ⟨_, _, _, by rw [hK]; exact lk, by rw [h1], rfl, h2, r⟩, k m' H⟩⟩
      · cases h
    · cases h
def oexB (K : PySem.W.Frag) (A0 : Addr) : Bool := (match K.lookup A0 with
  | some ⟨.type c, _, .cls cd, sl⟩ => decide (c = "type") && (match cd.mro, sl.toList with
    | .ref C' :: bm, [_, _, _, _, some (.builtin nn), _] => decide (C' = A0) && decide (nn = "ValueError.__new__") && !cd.hasDel && cd.hasDict && PySem.HandSPX.refsVE bm
    | _, _ => false)
  | _ => false) && He.eqO (PySem.W.findIn K (.ref A0) "__setattr__") (some (some (.builtin "object.__setattr__"))) && decide (PySem.W.subIn K (.ref A0) (.type "BaseException") = some true) && decide (PySem.W.typeIn K (.ref A0) = some (.type "type")) && PySem.W.keepIn K (.ref A0)
theorem oexB_ok {K : PySem.W.Frag} {A0 : Addr} (h : oexB K A0 = true) : OexC K A0 := by
  unfold oexB at h
  obtain ⟨h, h5⟩ := and2 h
  obtain ⟨h, h4⟩ := and2 h
  obtain ⟨h, h3⟩ := and2 h
  obtain ⟨h1, h2⟩ := and2 h
  refine ⟨?_, He.eqO_ok h2, of_decide_eq_true h3, of_decide_eq_true h4, h5⟩
  split at h1
  · rename_i c od cd sl lk
    obtain ⟨k1, k2⟩ := and2 h1
    have k1 := of_decide_eq_true k1
    split at k2
    · rename_i C' bm k0 k1' k2' k3 nn k5 hm hs
      simp only [Bool.and_eq_true, decide_eq_true_eq, Bool.not_eq_true'] at k2
      obtain ⟨⟨⟨⟨q1, q2⟩, q3⟩, q4⟩, q5⟩ := k2
      obtain ⟨nm, bs, mro, ns, qn, hd, sn, sub, ab, col, del⟩ := cd
      dsimp only at hm q3 q4
      subst hm q1 q2 q3 q4 k1
      have hsl : sl = #[k0, k1', k2', k3, some (.builtin "ValueError.__new__"), k5] := by
        obtain ⟨l⟩ := sl
        simp only at hs
        rw [hs]
      subst hsl
      exact ⟨nm, qn, ns, bs, bm, sn, sub, ab, col, od, k0, k1', k2', k3, k5, lk, q5⟩
    · cases k2
  · cases h1
def xiB (y : Str) (N : List Str) (sc : Scope) : List Stmt → Bool
  | [.Assign [.Attribute (.Name s _) y' _] (.Name p _) _] => decide (y' = y) && decide (N = [s, p]) && visB ⟨N, sc⟩ s && visB ⟨N, sc⟩ p && okN s && okN p
  | _ => false
def scB (N ps : List Str) (sc : Scope) : Bool := (match sc.kind with
  | .function => true
  | _ => false) && !sc.isCoroutine && !sc.isGenerator && decide N.Nodup && decide (N.take ps.length = ps) && (ps.all fun x => locB ⟨N, sc⟩ x) && (sc.names.all fun y => match y.2 with
  | .free => false
  | _ => true)
theorem scB_ok {N ps : List Str} {sc : Scope} (h : scB N ps sc = true) : FnScope N ps sc := by
  unfold scB at h
  obtain ⟨h, h7⟩ := and2 h
  obtain ⟨h, h6⟩ := and2 h
  obtain ⟨h, h5⟩ := and2 h
  obtain ⟨h, h4⟩ := and2 h
  obtain ⟨h, h3⟩ := and2 h
  obtain ⟨h1, h2⟩ := and2 h
  rw [Bool.not_eq_true'] at h2 h3
  refine ⟨?_, h2, h3, of_decide_eq_true h4, of_decide_eq_true h5, fun x hx => ?_, fun y hy e => ?_⟩
  · split at h1
    · assumption
    · cases h1
  · have q := List.all_eq_true.mp h6 x hx
    unfold locB at q
    split at q
    · exact .inl (by assumption)
    · exact .inr (by assumption)
    · cases q
  · have q := List.all_eq_true.mp h7 y hy
    rw [e] at q
    cases q
def paB (ps : List Str) (a : Arguments) : Bool := a.posonlyargs.isEmpty && decide (a.args.map (·.arg) = ps) && a.kwonlyargs.isEmpty && a.vararg.isNone && a.kwarg.isNone
theorem paB_ok {K : PySem.W.Frag} {ps N : List Str} {x qual : Str} {a : Arguments} {body : List Stmt} {sc : Scope} {f : Addr} {fd : FuncData} (F : FunD K x qual a body sc [] [] f fd) (Sc : FnScope N ps sc) (h : paB ps a = true) : Binds K fd ps [] := by
  unfold paB at h
  obtain ⟨h, h5⟩ := and2 h
  obtain ⟨h, h4⟩ := and2 h
  obtain ⟨h, h3⟩ := and2 h
  obtain ⟨h1, h2⟩ := and2 h
  have nd : ps.Nodup := by
    rw [← Sc.pre]
    exact List.Sublist.nodup (List.take_sublist _ _) Sc.nd
  exact F.bindsN fun kV doc pm an cdv ct us hl => bind_gen (List.isEmpty_iff.mp h1) (of_decide_eq_true h2) (List.isEmpty_iff.mp h3) (Option.isNone_iff_eq_none.mp h4) (Option.isNone_iff_eq_none.mp h5) rfl nd hl
theorem paB_any {K : PySem.W.Frag} {ps N : List Str} {x qual : Str} {a : Arguments} {body : List Stmt} {sc : Scope} {f : Addr} {fd : FuncData} (F : FunD K x qual a body sc [] [] f fd) (Sc : FnScope N ps sc) (h : paB ps a = true) (s : Shared) (us : List Value) (hl : us.length = ps.length) : BindsTo s fd ⟨us, []⟩ (ps.zip us) := by
  unfold paB at h
  obtain ⟨h, h5⟩ := and2 h
  obtain ⟨h, h4⟩ := and2 h
  obtain ⟨h, h3⟩ := and2 h
  obtain ⟨h1, h2⟩ := and2 h
  have nd : ps.Nodup := by
    rw [← Sc.pre]
    exact List.Sublist.nodup (List.take_sublist _ _) Sc.nd
  exact F.bindsA (fun kV doc pm an cdv ct us hl => bind_gen (List.isEmpty_iff.mp h1) (of_decide_eq_true h2) (List.isEmpty_iff.mp h3) (Option.isNone_iff_eq_none.mp h4) (Option.isNone_iff_eq_none.mp h5) rfl nd hl) s us hl
theorem xi_fn {P : Program} {w : World} {K : PySem.W.Frag} {mg : Str → Option Value} {base : Heap} {x qual y : Str} {a : Arguments} {body : List Stmt} {sc : Scope} {f A0 : Addr} {fd : FuncData} {N ps : List Str} {dvs : List V} {kws : List (Str × V)} (F : FunD K x qual a body sc dvs kws f fd) (Sc : FnScope N ps sc)
    (hN : ps = N) (h : xiB y N sc body = true) (T0 : OexC K A0) (na : PySem.W.findIn K (.ref A0) y = some none) : FnOk P w K mg base (L2.CX P w) 1 f fd ps (spX K A0 y) := by
  unfold xiB at h
  split at h
  · rename_i s p1 y' p2 p p3 pos
    obtain ⟨h, h6⟩ := and2 h
    obtain ⟨h, h5⟩ := and2 h
    obtain ⟨h, h4⟩ := and2 h
    obtain ⟨h, h3⟩ := and2 h
    obtain ⟨h1, h2⟩ := and2 h
    have h1 := of_decide_eq_true h1
    have h2 := of_decide_eq_true h2
    subst h1 hN h2
    have vis : ∀ z, visB ⟨[s, p], sc⟩ z = true → Vis sc z := fun z hz => by
      unfold visB at hz
      split at hz
      · exact .inl (by assumption)
      · exact .inr (.inl (by assumption))
      · exact .inr (.inr (by assumption))
      · cases hz
    refine F.ok (k := 0) Sc (fun vs H Q E z => ?_) fun cdv A outer st H vs Q E hr z => ?_
    · obtain ⟨a, v, rfl, _⟩ := z
      rfl
    · obtain ⟨a, v, rfl, ea, z⟩ := z
      exact ⟨_, pss_one (ps_ost (pe_var (i := 0) rfl (vis s h3) (okN_1 h5) (okN_2 h5)) (pe_var (i := 1) rfl (vis p h4) (okN_1 h6) (okN_2 h6))), v, rfl, .ref a, rfl, a, A0, rfl, T0, na, .inl ⟨ea, fun dx nd ne => z dx nd ne⟩⟩
  · cases h
end Y
set_option linter.all false
set_option maxHeartbeats 4000000
set_option maxRecDepth 100000
namespace Y
open PySem PySem.Spec PyProof.Rows L2 RZ
def allTys : List Ty := [.int, .str, .bool, .tuple, .list, .dict]
namespace Ld
variable (L : Ld)
def ownB (K : PySem.W.Frag) (c : Nat) (x : Str) : Bool := (He.Fa.cls x).ok K && He.eqO (PySem.W.findIn K (.ref (He.ga K x)) "__class__") (some (some (.builtin "object.__class__"))) && decide (PySem.W.mroIn K (He.ga K x) (.type "object") = some true) &&
  (L.flds.all fun y => (He.Fa.noat x y).ok K) &&
  (allTys.all fun t => decide (PySem.W.kitOne K (.ref (He.ga K x)) (tyV1 (L.g K) t) = some (isTy L.tab (some (.own c)) t))) &&
  ((List.range L.cls.length).all fun d => match L.nm.cl d with
    | none => true
    | some _ => decide (PySem.W.kitOne K (.ref (He.ga K x)) (.ref ((L.g K).ca d)) = some (L.tab.sub c d))) &&
  (["NoneType", "bool", "int", "str", "tuple", "list", "dict"].all fun t => decide (PySem.W.kitOne K (.type t) (.ref (He.ga K x)) = some false))
def clsB (K : PySem.W.Frag) : Bool := (List.range L.cls.length).all fun c => match L.cls[c]? with
  | none => true
  | some (x, k) => (He.Fa.glo x).ok K && (match k with
    | none => L.ownB K c x
    | some k => (match k with
      | none => (He.Fa.exc x).ok K
      | some f => oexB K (He.ga K x) && (match L.flds[f]? with
        | some y => (He.Fa.noat x y).ok K
        | none => false)) && ((List.range L.cls.length).all fun d => match L.nm.ex d with
          | none => true
          | some y => (He.Fa.exm x y (L.tab.sub c d)).ok K))
def desB (K : PySem.W.Frag) : Bool := decide (PySem.W.specialIn K (.builtin "object.__class__") "__get__" = some (some (.builtin "getset_descriptor.__get__"))) && decide (PySem.W.takesIn K (.builtin "object.__class__") = some true)
def facts (K : PySem.W.Frag) : Bool := (bltNames.all fun x => (He.Fa.free x).ok K) &&
  (L.fds.all fun d => match d.d.at_.2 with
    | none => (He.Fa.glo d.d.at_.1).ok K
    | some _ => true) &&
  (L.gls.all fun p => match PySem.W.nsIn K mainGlobals p.1 with
    | some (some u) => dvB K 5 p.2 u
    | _ => false) &&
  L.clsB K && ((!L.cls.any fun p => p.2.isNone) || desB K) &&
  (L.mts.all fun p => (He.Fa.meth (L.cln p.1) p.2.2).ok K) &&
  (L.mks.all fun p => (He.Fa.mkr (L.cln p.1)).ok K) &&
  (L.xis.all fun p => decide (PySem.W.typeIn K (.ref (He.fAd K p.2.1.at_)) = some (.type "function")) && He.eqO (PySem.W.findIn K (.ref (He.ga K (L.cln p.1))) "__init__") (some (some (.ref (He.fAd K p.2.1.at_)))))
def stat : Bool := decide L.flds.Nodup && (L.fds.all fun d => scB d.N d.ps d.d.scope && paB d.ps d.d.params && d.d.dfl.isEmpty && d.d.kwd.isEmpty && d.df.isEmpty && decide (d.ps.length = d.fn.np) && decide (d.N.length = d.fn.ns) && ckB L.nm d.fn.body ⟨d.N, d.d.scope⟩ d.d.body) &&
  (L.mts.all fun p => decide (L.at_ p.2.1 = (L.cln p.1, some p.2.2)) && !(L.flds.contains p.2.2)) &&
  (L.mks.all fun p => decide (L.at_ p.2 = (L.cln p.1, some ("__init__" : Str)))) &&
  ((List.range L.cls.length).all fun c => match L.cls[c]? with
    | some (_, some (some f)) => (match L.xis.lookup c with
      | some (d, s, p) => (match L.flds[f]? with
        | some y => scB [s, p] [s, p] d.scope && paB [s, p] d.params && d.dfl.isEmpty && d.kwd.isEmpty && xiB y [s, p] d.scope d.body
        | none => false)
      | none => false)
    | _ => true)
def defs : List He.DefD := L.fds.map (·.d) ++ L.xis.map (·.2.1)
end Ld
section
variable {L : Ld} {K : PySem.W.Frag} {h : Heap} {mg : Str → Option Value} {P : Program} {w : World}
theorem range_all {k : Nat} {p : Nat → Bool} (h : (List.range k).all p = true) {i : Nat} (l : i < k) : p i = true := List.all_eq_true.mp h i (List.mem_range.mpr l)
theorem cl_of {c : Nat} {x : Str} (e : L.nm.cl c = some x) : L.cls[c]? = some (x, none) := by
  unfold Ld.nm at e
  dsimp only at e
  split at e
  · cases e
    assumption
  · cases e
theorem ex_of {c : Nat} {x : Str} (e : L.nm.ex c = some x) : ∃ k, L.cls[c]? = some (x, some k) := by
  unfold Ld.nm at e
  dsimp only at e
  split at e
  · cases e
    exact ⟨_, by assumption⟩
  · cases e
theorem cln_of {c : Nat} {p : Str × Option (Option Nat)} (e : L.cls[c]? = some p) : L.cln c = p.1 := by
  unfold Ld.cln
  rw [e]
theorem lt_of {α : Type} {l : List α} {i : Nat} {x : α} (e : l[i]? = some x) : i < l.length := (List.getElem?_eq_some_iff.mp e).1
theorem nodup_ix : ∀ {l : List Str}, l.Nodup → ∀ {i j : Nat} {x : Str}, l[i]? = some x → l[j]? = some x → i = j
  | [], _, _, _, _, h, _ => by simp at h
  | a :: l, nd, 0, 0, x, _, _ => rfl
  | a :: l, nd, 0, j + 1, x, h1, h2 => by
    have e : a = x := by simpa using h1
    subst e
    exact absurd (List.mem_of_getElem? (by simpa using h2)) (List.nodup_cons.mp nd).1
  | a :: l, nd, i + 1, 0, x, h1, h2 => by
    have e : a = x := by simpa using h2
    subst e
    exact absurd (List.mem_of_getElem? (by simpa using h1)) (List.nodup_cons.mp nd).1
  | a :: l, nd, i + 1, j + 1, x, h1, h2 => congrArg Nat.succ (nodup_ix (List.nodup_cons.mp nd).2 (by simpa using h1) (by simpa using h2))
theorem mt_mem {c f : Nat} {x : Str} (e : L.nm.mt c f = some x) : (c, f, x) ∈ L.mts := by
  unfold Ld.nm at e
  dsimp only at e
  obtain ⟨p, h1, h2⟩ := Option.map_eq_some_iff.mp e
  have hm := List.mem_of_find?_eq_some h1
  have hp := List.find?_some h1
  rw [Bool.and_eq_true] at hp
  obtain ⟨a, b, y⟩ := p
  have e1 : a = c := eq_of_beq hp.1
  have e2 : b = f := eq_of_beq hp.2
  subst e1 e2 h2
  exact hm
theorem top_at (X : K.In h) (G0 : h.Ns mainGlobals mg) (hf : L.facts K = true) (hs : L.stat = true) (hd : ∀ f x, L.nm.fn f = some x → PySem.W.keepIn K (.ref ((L.g K).fa f)) = true) : TopAt (L.g K) L.tab L.nm mg := by
  unfold Ld.facts at hf
  obtain ⟨hf, f8⟩ := and2 hf
  obtain ⟨hf, f7⟩ := and2 hf
  obtain ⟨hf, f6⟩ := and2 hf
  obtain ⟨hf, f5⟩ := and2 hf
  obtain ⟨hf, f4⟩ := and2 hf
  obtain ⟨hf, f3⟩ := and2 hf
  obtain ⟨f1, f2⟩ := and2 hf
  unfold Ld.stat at hs
  obtain ⟨hs, s5⟩ := and2 hs
  obtain ⟨hs, s4⟩ := and2 hs
  obtain ⟨hs, s3⟩ := and2 hs
  obtain ⟨s1, s2⟩ := and2 hs
  have clf : ∀ {c : Nat} {p : Str × Option (Option Nat)}, L.cls[c]? = some p → (He.Fa.glo p.1).ok K = true ∧ (match p.2 with
    | none => L.ownB K c p.1
    | some k => (match k with
      | none => (He.Fa.exc p.1).ok K
      | some f => oexB K (He.ga K p.1) && (match L.flds[f]? with
        | some y => (He.Fa.noat p.1 y).ok K
        | none => false)) && ((List.range L.cls.length).all fun d => match L.nm.ex d with
          | none => true
          | some y => (He.Fa.exm p.1 y (L.tab.sub c d)).ok K)) = true := fun {c p} e => by
    have q := range_all f4 (lt_of e)
    rw [e] at q
    obtain ⟨x, k⟩ := p
    exact and2 q
  have own : ∀ {c : Nat} {x : Str}, L.nm.cl c = some x → L.ownB K c x = true := fun {c x} e => (clf (cl_of e)).2
  refine ⟨rfl, fun _ => rfl, fun _ => rfl, fun c x e => ?_, fun c c' x x' e e' => ?_, fun c x e e' => ?_, fun i d x e e' => ?_, fun x hx => ?_, fun f x e => ?_, fun c x e => ?_, fun c x f y e e' => ?_, fun c f x k e e' => ?_, fun c f e => ?_, fun c f x e => ?_, fun c x t e ht => ?_, fun c x t e ht => ?_⟩
  · obtain ⟨k, q⟩ := ex_of e
    show mg x = some (.ref (He.ga K (L.cln c)))
    rw [cln_of q]
    exact He.glo_ok X G0 (clf q).1
  · obtain ⟨k, q⟩ := ex_of e
    obtain ⟨k', q'⟩ := ex_of e'
    have z := range_all (and2 (clf q).2).2 (lt_of q')
    rw [e'] at z
    show PySem.W.exmOne K (.ref (He.ga K (L.cln c))) (.ref (He.ga K (L.cln c'))) = some (L.tab.sub c c')
    rw [cln_of q, cln_of q']
    exact of_decide_eq_true z
  · obtain ⟨k, q⟩ := ex_of e
    have ek : k = none := by
      have e' : (match L.cls[c]? with
        | some (_, some f) => some f
        | _ => none) = some none := e'
      rw [q] at e'
      exact Option.some.inj e'
    subst ek
    have z := (and2 (clf q).2).1
    have z : (PySem.W.excIn K (He.ga K x) He.veBase "ValueError.__new__" && (PySem.W.keepIn K (.ref (He.ga K x)) && (decide (PySem.W.subIn K (.ref (He.ga K x)) (.type "BaseException") = some true) && decide (PySem.W.typeIn K (.ref (He.ga K x)) = some (.type "type"))))) = true := z
    obtain ⟨z1, z2⟩ := and2 z
    obtain ⟨z2, z3⟩ := and2 z2
    obtain ⟨z3, z4⟩ := and2 z3
    show (∃ bm, _ ∧ PySem.W.excIn K (He.ga K (L.cln c)) bm "ValueError.__new__" = true) ∧ PySem.W.keepIn K (.ref (He.ga K (L.cln c))) = true ∧ PySem.W.subIn K (.ref (He.ga K (L.cln c))) (.type "BaseException") = some true ∧ PySem.W.typeIn K (.ref (He.ga K (L.cln c))) = some (.type "type")
    rw [cln_of q]
    exact ⟨⟨_, PySem.F.excBase_ValueError, z1⟩, z2, of_decide_eq_true z3, of_decide_eq_true z4⟩
  · have e : (L.gls[i]?).map (·.2) = some d := e
    have e' : (L.gls[i]?).map (·.1) = some x := e'
    obtain ⟨p, h1, h2⟩ := Option.map_eq_some_iff.mp e
    rw [h1] at e'
    cases e'
    subst h2
    have q := List.all_eq_true.mp f3 p (List.mem_of_getElem? h1)
    split at q
    · rename_i u eu
      obtain ⟨v, r, k⟩ := dvB_ok (g := L.g K) rfl 5 _ _ q
      exact ⟨u, v, PySem.W.mg_of X G0 eu, r, k⟩
    · cases q
  · exact He.free_ok X G0 (List.all_eq_true.mp f1 x hx)
  · refine ⟨?_, hd f x e⟩
    have e : (match L.fds[f]? with
      | some d => (match d.d.at_.2 with
        | none => some d.d.at_.1
        | some _ => none)
      | none => none) = some x := e
    split at e
    · rename_i d hd'
      split at e
      · rename_i e2
        cases e
        have q := List.all_eq_true.mp f2 d (List.mem_of_getElem? hd')
        rw [e2] at q
        have z := He.glo_ok X G0 q
        have ea : (L.g K).fa f = He.ga K d.d.at_.1 := by
          show He.fAd K (L.at_ f) = _
          unfold Ld.at_
          rw [hd']
          unfold He.fAd
          dsimp only
          rw [e2]
        rw [ea]
        exact z
      · cases e
    · cases e
  · have q := cl_of e
    have o := own e
    unfold Ld.ownB at o
    obtain ⟨o, o7⟩ := and2 o
    obtain ⟨o, o6⟩ := and2 o
    obtain ⟨o, o5⟩ := and2 o
    obtain ⟨o, o4⟩ := and2 o
    obtain ⟨o, o3⟩ := and2 o
    obtain ⟨o1, o2⟩ := and2 o
    have ce : (L.g K).ca c = He.ga K x := by
      show He.ga K (L.cln c) = _
      rw [cln_of q]
    rw [ce]
    have des : Ld.desB K = true := by
      rcases (Bool.or_eq_true _ _).mp f5 with z | z
      · have any : (L.cls.any fun p => p.2.isNone) = true := List.any_eq_true.mpr ⟨_, List.mem_of_getElem? q, rfl⟩
        rw [any] at z
        cases z
      · exact z
    obtain ⟨d1, d2⟩ := and2 des
    have o1 : (PySem.W.plainGet K (He.ga K x) Str.empty && (PySem.W.hasDictIn K (He.ga K x) && (PySem.W.plainOver K (He.ga K x) && He.eqO (PySem.W.findIn K (.ref (He.ga K x)) "__setattr__") (some (some (.builtin "object.__setattr__")))))) = true := o1
    obtain ⟨p1, p2⟩ := and2 o1
    obtain ⟨p2, p3⟩ := and2 p2
    obtain ⟨p3, p4⟩ := and2 p3
    exact ⟨He.glo_ok X G0 (clf q).1, ⟨p1, p2, p3, He.eqO_ok p4⟩, He.eqO_ok o2, of_decide_eq_true d1, of_decide_eq_true d2, of_decide_eq_true o3⟩
  · have q := cl_of e
    have o := own e
    unfold Ld.ownB at o
    obtain ⟨o, o7⟩ := and2 o
    obtain ⟨o, o6⟩ := and2 o
    obtain ⟨o, o5⟩ := and2 o
    obtain ⟨o, o4⟩ := and2 o
    show PySem.W.findIn K (.ref (He.ga K (L.cln c))) y = some none
    rw [cln_of q]
    exact He.eqO_ok (List.all_eq_true.mp o4 y (List.mem_of_getElem? e'))
  · have q := and2 (List.all_eq_true.mp s3 _ (mt_mem e))
    have z := q.2
    rw [Bool.not_eq_true'] at z
    have m : L.flds.contains x = true := by
      rw [List.contains_iff_mem]
      exact List.mem_of_getElem? e'
    rw [m] at z
    cases z
  · have m := lookup_mem e
    have q := List.all_eq_true.mp f7 _ m
    have a := of_decide_eq_true (List.all_eq_true.mp s4 _ m)
    have q : (PySem.W.makesIn K (He.ga K (L.cln c)) && (He.eqO (PySem.W.findIn K (.ref (He.ga K (L.cln c))) "__init__") (some (some (.ref (He.ma K (He.ga K (L.cln c)) "__init__")))) && (PySem.W.isFn K (.ref (He.ma K (He.ga K (L.cln c)) "__init__")) && PySem.W.keepIn K (.ref (He.ga K (L.cln c)))))) = true := q
    obtain ⟨q1, q2⟩ := and2 q
    obtain ⟨q2, q3⟩ := and2 q2
    obtain ⟨q3, q4⟩ := and2 q3
    have ea : (L.g K).fa f = He.ma K (He.ga K (L.cln c)) "__init__" := by
      show He.fAd K (L.at_ f) = _
      rw [a]
      rfl
    rw [ea]
    exact ⟨q1, He.eqO_ok q2, q3, q4⟩
  · have m := mt_mem e
    have q := List.all_eq_true.mp f6 _ m
    have a := of_decide_eq_true (and2 (List.all_eq_true.mp s3 _ m)).1
    have q : (He.eqO (PySem.W.findIn K (.ref (He.ga K (L.cln c))) x) (some (some (.ref (He.ma K (He.ga K (L.cln c)) x)))) && (PySem.W.isFn K (.ref (He.ma K (He.ga K (L.cln c)) x)) && PySem.W.keepIn K (.ref (He.ma K (He.ga K (L.cln c)) x)))) = true := q
    obtain ⟨q1, q2⟩ := and2 q
    obtain ⟨q2, q3⟩ := and2 q2
    have ea : (L.g K).fa f = He.ma K (He.ga K (L.cln c)) x := by
      show He.fAd K (L.at_ f) = _
      rw [a]
      rfl
    rw [ea]
    exact ⟨He.eqO_ok q1, q2, q3⟩
  · have q := cl_of e
    have o := own e
    unfold Ld.ownB at o
    obtain ⟨o, o7⟩ := and2 o
    obtain ⟨o, o6⟩ := and2 o
    obtain ⟨o, o5⟩ := and2 o
    show PySem.W.kitOne K (.ref (He.ga K (L.cln c))) _ = _
    rw [cln_of q]
    by_cases z : ∃ d, t = .own d
    · obtain ⟨d, rfl⟩ := z
      obtain ⟨y, hy⟩ := Option.isSome_iff_exists.mp (ht d rfl)
      have w := range_all o6 (lt_of (cl_of hy))
      rw [hy] at w
      exact of_decide_eq_true w
    · have mem : t ∈ allTys := by
        cases t <;> first | (unfold allTys; simp; done) | exact absurd ⟨_, rfl⟩ z
      exact of_decide_eq_true (List.all_eq_true.mp o5 t mem)
  · have q := cl_of e
    have o := own e
    unfold Ld.ownB at o
    obtain ⟨o, o7⟩ := and2 o
    show PySem.W.kitOne K _ (.ref (He.ga K (L.cln c))) = _
    rw [cln_of q]
    exact of_decide_eq_true (List.all_eq_true.mp o7 t ht)
theorem df_at (hs : L.stat = true) (hd : ∀ d ∈ L.defs, ∃ fd, FunD K d.name d.qual d.params d.body d.scope (d.dvs K) (d.kws K) (He.fAd K d.at_) fd) {f : Nat} {fn : Fn} (e : L.tab.fn f = some fn) : DefAt (L.g K) L.nm f fn := by
  have e : (L.fds[f]?).map (·.fn) = some fn := e
  obtain ⟨d, h1, h2⟩ := Option.map_eq_some_iff.mp e
  subst h2
  unfold Ld.stat at hs
  obtain ⟨hs, s5⟩ := and2 hs
  obtain ⟨hs, s4⟩ := and2 hs
  obtain ⟨hs, s3⟩ := and2 hs
  obtain ⟨s1, s2⟩ := and2 hs
  have q := List.all_eq_true.mp s2 d (List.mem_of_getElem? h1)
  obtain ⟨q, k8⟩ := and2 q
  obtain ⟨q, k7⟩ := and2 q
  obtain ⟨q, k6⟩ := and2 q
  obtain ⟨q, k5⟩ := and2 q
  obtain ⟨q, k4⟩ := and2 q
  obtain ⟨q, k3⟩ := and2 q
  obtain ⟨k1, k2⟩ := and2 q
  obtain ⟨fd, F⟩ := hd d.d (List.mem_append_left _ (List.mem_map_of_mem (List.mem_of_getElem? h1)))
  have e1 : d.d.dvs K = [] := by unfold He.DefD.dvs; rw [List.isEmpty_iff.mp k3]; rfl
  have e2 : d.d.kws K = [] := by unfold He.DefD.kws; rw [List.isEmpty_iff.mp k4]; rfl
  rw [e1, e2] at F
  have ea : He.fAd K d.d.at_ = (L.g K).fa f := by
    show _ = He.fAd K (L.at_ f)
    unfold Ld.at_
    rw [h1]
  rw [ea] at F
  have Sc := scB_ok k1
  refine ⟨_, _, _, _, _, d.N, d.ps, [], [], fd, F, Sc, of_decide_eq_true k6, of_decide_eq_true k7, k8, paB_ok F Sc k2, fun ne => absurd ?_ ne⟩
  show (match L.fds[f]? with
    | some d => d.df
    | none => []) = []
  rw [h1]
  exact List.isEmpty_iff.mp k5
theorem top_ok {base : Heap} (X : K.In h) (G0 : h.Ns mainGlobals mg) (hf : L.facts K = true) (hs : L.stat = true) (hd : ∀ d ∈ L.defs, ∃ fd, FunD K d.name d.qual d.params d.body d.scope (d.dvs K) (d.kws K) (He.fAd K d.at_) fd) : TopOk (L.g K) L.tab L.nm P w mg base := by
  have hf0 := hf
  have hs0 := hs
  unfold Ld.facts at hf
  obtain ⟨hf, f8⟩ := and2 hf
  obtain ⟨hf, f7⟩ := and2 hf
  obtain ⟨hf, f6⟩ := and2 hf
  obtain ⟨hf, f5⟩ := and2 hf
  obtain ⟨hf, f4⟩ := and2 hf
  unfold Ld.stat at hs
  obtain ⟨hs, s5⟩ := and2 hs
  obtain ⟨hs, s4⟩ := and2 hs
  obtain ⟨hs, s3⟩ := and2 hs
  obtain ⟨s1, s2⟩ := and2 hs
  refine ⟨top_at X G0 hf0 hs0 fun f x e => ?_, ⟨fun k z => absurd rfl z, fun f f' x e e' => nodup_ix (of_decide_eq_true s1) e e'⟩, ⟨fun c x f y e e' e2 => ?_, fun c x f e e' => ?_⟩, fun f fn e => df_at hs0 hd e⟩
  · have e : (match L.fds[f]? with
      | some d => (match d.d.at_.2 with
        | none => some d.d.at_.1
        | some _ => none)
      | none => none) = some x := e
    split at e
    · rename_i d hd'
      obtain ⟨fd, F⟩ := hd d.d (List.mem_append_left _ (List.mem_map_of_mem (List.mem_of_getElem? hd')))
      have ea : He.fAd K d.d.at_ = (L.g K).fa f := by
        show _ = He.fAd K (L.at_ f)
        unfold Ld.at_
        rw [hd']
      rw [← ea]
      exact F.kp
    · cases e
  · obtain ⟨k, q⟩ := ex_of e
    have ek : k = some f := by
      have e' : (match L.cls[c]? with
        | some (_, some f) => some f
        | _ => none) = some (some f) := e'
      rw [q] at e'
      exact Option.some.inj e'
    subst ek
    have e2 : L.flds[f]? = some y := e2
    have z := range_all f4 (lt_of q)
    rw [q] at z
    obtain ⟨_, z⟩ := and2 z
    obtain ⟨z, _⟩ := and2 z
    dsimp only at z
    rw [e2] at z
    obtain ⟨z1, z2⟩ := and2 z
    have ce : (L.g K).ca c = He.ga K x := by
      show He.ga K (L.cln c) = _
      rw [cln_of q]
    have T0 := oexB_ok z1
    have y5 := range_all s5 (lt_of q)
    rw [q] at y5
    dsimp only at y5
    split at y5
    · rename_i d s p el
      rw [e2] at y5
      obtain ⟨y5, y1⟩ := and2 y5
      obtain ⟨y5, y2⟩ := and2 y5
      obtain ⟨y5, y3⟩ := and2 y5
      obtain ⟨y4, y5⟩ := and2 y5
      have m := lookup_mem el
      obtain ⟨fd, F⟩ := hd d (List.mem_append_right _ (List.mem_map_of_mem (f := fun p => p.2.1) m))
      have e1 : d.dvs K = [] := by unfold He.DefD.dvs; rw [List.isEmpty_iff.mp y3]; rfl
      have e2 : d.kws K = [] := by unfold He.DefD.kws; rw [List.isEmpty_iff.mp y2]; rfl
      rw [e1, e2] at F
      have Sc := scB_ok y4
      have f8 := and2 (List.all_eq_true.mp f8 _ m)
      rw [ce]
      refine ⟨T0, He.fAd K d.at_, fd, [s, p], ?_, of_decide_eq_true f8.1, xi_fn F Sc rfl y1 T0 (He.eqO_ok z2), paB_ok F Sc y5⟩
      have f9 := He.eqO_ok f8.2
      dsimp only at f9
      rw [cln_of q] at f9
      exact f9
    · cases y5
  · obtain ⟨k, q⟩ := ex_of e
    have ek : k = some f := by
      have e' : (match L.cls[c]? with
        | some (_, some f) => some f
        | _ => none) = some (some f) := e'
      rw [q] at e'
      exact Option.some.inj e'
    subst ek
    have z := range_all f4 (lt_of q)
    rw [q] at z
    obtain ⟨_, z⟩ := and2 z
    obtain ⟨z, _⟩ := and2 z
    dsimp only at z
    obtain ⟨_, z⟩ := and2 z
    show (L.flds[f]?).isSome = true
    split at z
    · rename_i e; rw [e]; rfl
    · cases z
end
end Y
set_option linter.all false
set_option maxHeartbeats 4000000
set_option maxRecDepth 100000
namespace Y
open PySem PySem.Spec PyProof.Rows L2 RZ
def Told (L : Ld) (h : Heap) : Prop := ∃ K : PySem.W.Frag, K.In h ∧ L.facts K = true ∧ ∀ d ∈ L.defs, ∃ fd, FunD K d.name d.qual d.params d.body d.scope (d.dvs K) (d.kws K) (He.fAd K d.at_) fd
theorem told_of {L : Ld} {w : World} {h : Heap} (y : (He.hookX 5 [] L.defs [] [] L.facts).says w h) : Told L h := by
  obtain ⟨K, X, c⟩ := y
  exact ⟨K, X, c.more, fun d hd => c.t.d.defs hd⟩
theorem walk_y {l : PySem.W.OpenLaw} {m k : Nat} {q : Program} {loose : List Str} {XP : (Str → Option Value) → Heap → Prop} {YP : World → Heap → Prop} {d : DefRec} {x : Str} (L : Ld) (i : Nat) {e : Fd} (hn : l.most = some m) (hn2 : m ≤ sizeLine) (hdf : d.params.defaults = []) (hr : Room (2 * k + 4) callerA)
    (hs : L.stat = true) (he : L.fds[i]? = some e) (hat : e.d.at_ = (d.name, none)) (hps : e.ps = [x]) (hY : ∀ w h, YP w h → Told L h)
    (hlaw : ∀ ns : List Int, ns.length ≤ m → Call L.tab (k + 1) i [.ref 0] (st0 ns) (fun d _ => d = .bl true) fun _ _ => False) : PySem.W.WalkO q loose XP YP l.row.toRowW d [] (fun f vs => PySem.call f vs) := by
  refine Att.attach_call hn hdf ?_
  intro w s0 s1 mg mb fa o pm cd doc a vs ns G0 Y0 ho hd hcd hmg hobj hints hlen hg
  obtain ⟨K, KX, hf, hD⟩ := hY w _ Y0
  obtain ⟨fd, F⟩ := hD e.d (List.mem_append_left _ (List.mem_map_of_mem (List.mem_of_getElem? he)))
  have fe : He.fAd K e.d.at_ = fa := by
    have q := List.all_eq_true.mp (and2 (and2 (and2 (and2 (and2 (and2 (and2 hf).1).1).1).1).1).1).2 e (List.mem_of_getElem? he)
    have z : (He.Fa.glo d.name).ok K = true := by
      rw [hat] at q
      exact q
    have z2 := He.glo_ok KX G0.T.g z
    rw [hmg] at z2
    rw [hat]
    exact (Value.ref.inj (Option.some.inj z2)).symm
  have ge : (L.g K).fa i = fa := by
    rw [← fe]
    show He.fAd K (L.at_ i) = _
    unfold Ld.at_
    rw [he]
  have s2 := List.all_eq_true.mp (and2 (and2 (and2 (and2 hs).1).1).1).2 e (List.mem_of_getElem? he)
  obtain ⟨z, k8⟩ := and2 s2
  obtain ⟨z, k7⟩ := and2 z
  obtain ⟨z, k6⟩ := and2 z
  obtain ⟨z, k5⟩ := and2 z
  obtain ⟨z, k4⟩ := and2 z
  obtain ⟨z, k3⟩ := and2 z
  obtain ⟨k1, k2⟩ := and2 z
  have e1 : e.d.dvs K = [] := by unfold He.DefD.dvs; rw [List.isEmpty_iff.mp k3]; rfl
  have e2 : e.d.kws K = [] := by unfold He.DefD.kws; rw [List.isEmpty_iff.mp k4]; rfl
  rw [e1, e2, fe] at F
  have Sc := scB_ok k1
  rw [hps] at Sc k2 k6
  have b := paB_ok F Sc k2
  have tf : L.tab.fn i = some e.fn := by
    show (L.fds[i]?).map (·.fn) = _
    rw [he]
    rfl
  refine law_call (sp := spF (L.g K) (Call L.tab (k + 1)) i) (fd := fd) (x := x) (CX := L2.CX l.prog w) KX G0.T.g G0.T.b G0.T.builtins G0.T.nolimit hg hobj hints (Nat.le_trans hlen hn2) hr (fun base kb nb => ?_) (fun s u => ?_) (fun H hO hS => ?_) fun H e s' ⟨_, _, _, _, _, _, _, _, _, _, _, _, z⟩ => z
  · have TO := top_ok (L := L) (P := l.prog) (w := w) (base := base) kb nb hf hs hD
    have q := fn_ok TO (k := k) (all_ok TO k) tf (by rw [ge]; exact F) Sc (of_decide_eq_true k6) (of_decide_eq_true k7) k8
    rw [ge] at q
    exact q
  · exact paB_any F Sc k2 s [u] rfl
  · exact sp_law hO hS (hlaw ns hlen)
end Y
set_option linter.all false
set_option maxHeartbeats 4000000
set_option maxRecDepth 100000
namespace Y
theorem call_go {T : Tab} {k f : Nat} {ds : List D} {st : Store} {Q : QE} {X : QX} (fn : Fn) (h : T.fn f = some fn) (hl : ds.length = fn.np)
    (b : wpB T (Call T k) none fn.body (ds.map some ++ List.replicate (fn.ns - fn.np) none) st ⟨fun _ s => Q .non s, Q, fun _ _ => False, fun _ _ => False, fun e _ s => X e s⟩) : Call T (k + 1) f ds st Q X := by
  unfold Call
  rw [h]
  exact ⟨hl, b⟩
theorem getV_0 (d : D) (env : Env) (Q : D → Prop) : getV (some d :: env) 0 Q = Q d := rfl
theorem getV_s (a : Option D) (env : Env) (i : Nat) (Q : D → Prop) : getV (a :: env) (i + 1) Q = getV env i Q := by
  unfold getV
  rw [List.getElem?_cons_succ]
theorem set_0 {α : Type} (a b : α) (l : List α) : (a :: l).set 0 b = b :: l := rfl
theorem set_s {α : Type} (a b : α) (l : List α) (i : Nat) : (a :: l).set (i + 1) b = a :: l.set i b := rfl
theorem bind_nm (i : Nat) (d : D) (env : Env) : bindT (.nm i) d env = some (env.set i (some d)) := rfl
end Y
set_option linter.all false
set_option maxHeartbeats 4000000
set_option maxRecDepth 100000
namespace Y
section
variable {T : Tab} {C : Calls} {hx : Option Exc} {env : Env} {st : Store} {X : QX}
section
variable {Q : QE}
theorem go_var {i : Nat} (h : getV env i fun d => Q d st) : wpE T C hx (.var i) env st Q X := h
theorem go_con {d : D} (h : Q d st) : wpE T C hx (.con d) env st Q X := h
theorem go_glo {i : Nat} {d : D} (e : T.glo i = some d) (h : Q d st) : wpE T C hx (.glo i) env st Q X := by
  unfold wpE
  rw [e]
  exact h
theorem go_bin {o : Op} {a b : E} (h : wpE T C hx a env st (fun x s1 => wpE T C hx b env s1 (fun y s2 => binQ s2 o x y Q) X) X) : wpE T C hx (.bin o a b) env st Q X := h
theorem go_neg {a : E} {i : Int} (h : Q (.int (-i)) st) : wpE T C hx (.neg (.con (.int i))) env st Q X := h
theorem go_cmp {o : Cm} {a b : E} (h : wpE T C hx a env st (fun x s1 => wpE T C hx b env s1 (fun y s2 => cmpQ T s2 o x y fun b => Q (.bl b) s2) X) X) : wpE T C hx (.cmp o a b) env st Q X := h
theorem go_chain {o o' : Cm} {a b c : E} (h : wpE T C hx a env st (fun x s1 => wpE T C hx b env s1 (fun y s2 => cmpQ T s2 o x y fun k => if k = true then wpE T C hx c env s2 (fun z s3 => cmpQ T s3 o' y z fun b => Q (.bl b) s3) X else Q (.bl false) s2) X) X) : wpE T C hx (.chain o o' a b c) env st Q X := h
theorem go_isN {a : E} (h : wpE T C hx a env st (fun x s1 => Q (.bl (decide (x = .non))) s1) X) : wpE T C hx (.isN a) env st Q X := h
theorem go_and {a b : E} (h : wpE T C hx a env st (fun x s1 => (match x with
    | .bl c => if c = true then wpE T C hx b env s1 Q X else Q (.bl false) s1
    | _ => False)) X) : wpE T C hx (.and a b) env st Q X := h
theorem go_or {a b : E} (h : wpE T C hx a env st (fun x s1 => (match x with
    | .bl c => if c = true then Q (.bl true) s1 else wpE T C hx b env s1 Q X
    | _ => False)) X) : wpE T C hx (.or a b) env st Q X := h
theorem go_not {a : E} (h : wpE T C hx a env st (fun x s1 => (match x with
    | .bl c => Q (.bl (!c)) s1
    | _ => False)) X) : wpE T C hx (.not a) env st Q X := h
theorem go_call {f : Nat} {as : A} {df : List D} (h : wpA T C none as env st (fun ds s1 => C f (ds ++ df) s1 Q X) X) : wpE T C none (.call f as df) env st Q X := ⟨rfl, h⟩
theorem go_pr {p : Pr} {as : A} (h : wpA T C none as env st (fun ds s1 => prQ p ds s1 Q) X) : wpE T C none (.pr p as) env st Q X := ⟨rfl, h⟩
theorem go_me {m : Me} {o : E} {as : A} (h : wpE T C hx o env st (fun x s1 => meOk m s1 x ∧ wpA T C hx as env s1 (fun ds s2 => meQ m x ds s2 Q) X) X) : wpE T C hx (.me m o as) env st Q X := h
theorem go_isi {a : E} {ts : List Ty} (h : wpE T C hx a env st (fun x s1 => hasTy s1 x = true ∧ Q (.bl (ts.any fun t => isTy T (tyOf s1 x) t)) s1) X) : wpE T C hx (.isi a ts) env st Q X := h
theorem go_idx {a b : E} (h : wpE T C hx a env st (fun x s1 => wpE T C hx b env s1 (fun y s2 => idxQ T s2 x y Q) X) X) : wpE T C hx (.idx a b) env st Q X := h
theorem go_sli {a lo hi : E} (h : wpE T C hx a env st (fun x s1 => wpE T C hx lo env s1 (fun l s2 => partQ l fun l' => wpE T C hx hi env s2 (fun u s3 => partQ u fun u' => sliQ s3 x l' u' Q) X) X) X) : wpE T C hx (.sli a lo hi) env st Q X := h
theorem go_abs0 (h : Q .non st) : wpE T C hx .abs0 env st Q X := h
theorem go_tup {as : A} (h : wpA T C hx as env st (fun ds s1 => Q (.tup ds) s1) X) : wpE T C hx (.tup as) env st Q X := h
theorem go_lst {as : A} (h : wpA T C hx as env st (fun ds s1 => Q (.ref s1.length) (s1 ++ [.lst ds])) X) : wpE T C hx (.lst as) env st Q X := h
theorem go_fstr {as : A} (h : wpF T C hx as env st [] (fun y s1 => Q (.str y) s1) X) : wpE T C hx (.fstr as) env st Q X := h
end
section
variable {Q : Bool → Store → Prop}
theorem go_Tcmp {o : Cm} {a b : E} (h : wpE T C hx a env st (fun x s1 => wpE T C hx b env s1 (fun y s2 => cmpQ T s2 o x y fun k => Q k s2) X) X) : wpT T C hx (.cmp o a b) env st Q X := h
theorem go_Tchain {o o' : Cm} {a b c : E} (h : wpE T C hx a env st (fun x s1 => wpE T C hx b env s1 (fun y s2 => cmpQ T s2 o x y fun k => if k = true then wpE T C hx c env s2 (fun z s3 => cmpQ T s3 o' y z fun b => Q b s3) X else Q false s2) X) X) : wpT T C hx (.chain o o' a b c) env st Q X := h
theorem go_TisN {a : E} (h : wpE T C hx a env st (fun x s1 => Q (decide (x = .non)) s1) X) : wpT T C hx (.isN a) env st Q X := h
theorem go_Tand {a b : E} (h : wpT T C hx a env st (fun k s1 => if k = true then wpT T C hx b env s1 Q X else Q false s1) X) : wpT T C hx (.and a b) env st Q X := h
theorem go_Tor {a b : E} (h : wpT T C hx a env st (fun k s1 => if k = true then Q true s1 else wpT T C hx b env s1 Q X) X) : wpT T C hx (.or a b) env st Q X := h
theorem go_Tnot {a : E} (h : wpT T C hx a env st (fun k s1 => Q (!k) s1) X) : wpT T C hx (.not a) env st Q X := h
theorem go_Ttv {a : E} (h : wpE T C hx a env st (fun x s1 => truQ s1 x fun k => Q k s1) X) : wpT T C hx (.tv a) env st Q X := h
end
section
variable {Q : List D → Store → Prop}
theorem go_nil (h : Q [] st) : wpA T C hx .nil env st Q X := h
theorem go_cons {e : E} {as : A} (h : wpE T C hx e env st (fun d s1 => wpA T C hx as env s1 (fun ds s2 => Q (d :: ds) s2) X) X) : wpA T C hx (.cons e as) env st Q X := h
end
theorem go_Fnil {acc : List Nat} {Q : List Nat → Store → Prop} (h : Q acc st) : wpF T C hx .nil env st acc Q X := h
theorem go_Fcons {e : E} {as : A} {acc : List Nat} {Q : List Nat → Store → Prop} (h : wpE T C hx e env st (fun d s1 => fmtQ d fun y => (acc ++ y).length ≤ line ∧ wpF T C hx as env s1 (acc ++ y) Q X) X) : wpF T C hx (.cons e as) env st acc Q X := h
section
variable {k : K}
theorem go_Bnil (h : k.nx env st) : wpB T C hx .nil env st k := h
theorem go_Bcons {s : S} {b : B} (h : wpS T C hx s env st { k with nx := fun e s' => wpB T C hx b e s' k }) : wpB T C hx (.cons s b) env st k := h
theorem go_asg {i : Nat} {e : E} (h : wpE T C hx e env st (fun d s1 => k.nx (env.set i (some d)) s1) fun x s1 => k.xc x env s1) : wpS T C hx (.asg (.nm i) e) env st k := ⟨trivial, h⟩
theorem go_seti {o i e : E} (h : wpE T C hx e env st (fun v s1 => wpE T C hx o env s1 (fun x s2 => wpE T C hx i env s2 (fun y s3 => setQ s3 x y v fun s4 => k.nx env s4) fun x s1 => k.xc x env s1) fun x s1 => k.xc x env s1) fun x s1 => k.xc x env s1) : wpS T C hx (.seti o i e) env st k := h
theorem go_exp {e : E} (h : wpE T C hx e env st (fun _ s1 => k.nx env s1) fun x s1 => k.xc x env s1) : wpS T C hx (.exp e) env st k := h
theorem go_ret {e : E} (h : wpE T C hx e env st (fun d s1 => k.rt d s1) fun x s1 => k.xc x env s1) : wpS T C hx (.ret e) env st k := h
theorem go_if {c : E} {a b : B} (h : wpT T C hx c env st (fun t s1 => if t = true then wpB T C hx a env s1 k else wpB T C hx b env s1 k) fun x s1 => k.xc x env s1) : wpS T C hx (.ifS c a b) env st k := h
theorem go_for {tg : Tg} {it : E} {b : B} (h : wpI T C none it env st (fun j s1 => ∃ n, forN j tg (fun e s k' => wpB T C none b e s k') k n 0 env s1) fun x s1 => k.xc x env s1) : wpS T C none (.forS tg it b) env st k := ⟨rfl, h⟩
end
theorem go_comp {Q : QE} {elt it : E} {tg : Tg} {cs : A} {own : List Nat} (h : wpI T C none it env st (fun j s1 => ∃ n, cmpN j tg (fun e s P => wpTs T C none cs e s P) (fun e s P => wpE T C none elt e s P (fun _ _ => False)) s1.length Q n 0 (wipeE env own) (s1 ++ [.lst []])) X) : wpE T C none (.comp elt tg it cs own) env st Q X := ⟨rfl, h⟩
theorem go_sq {a : E} {R : J → Store → Prop} (h : wpE T C hx a env st (fun x s1 => walkQ s1 x fun j => R j s1) X) : wpI T C hx (.sq a) env st R X := h
theorem go_enm {a : E} {R : J → Store → Prop} (h : wpE T C hx a env st (fun x s1 => enmQ s1 x fun j => R j s1) X) : wpI T C hx (.enm a) env st R X := h
theorem go_rng1 {a : E} {R : J → Store → Prop} (h : wpE T C hx a env st (fun x s1 => (match x with
    | .int n => -(2 ^ 62) ≤ n ∧ n < 2 ^ 62 ∧ R (.seq (rngD 0 n.toNat)) s1
    | _ => False)) X) : wpI T C hx (.rng1 a) env st R X := h
theorem go_v0 {d : D} {env : Env} {Q : D → Prop} (h : Q d) : getV (some d :: env) 0 Q := h
theorem go_vs {a : Option D} {env : Env} {i : Nat} {Q : D → Prop} (h : getV env i Q) : getV (a :: env) (i + 1) Q := by
  rw [getV_s]
  exact h
section
variable {Q : QE} {a b i : Int}
theorem go_add (h : Q (.int (a + b)) st) : binQ st .add (.int a) (.int b) Q := h
theorem go_sub (h : Q (.int (a - b)) st) : binQ st .sub (.int a) (.int b) Q := h
theorem go_mul (s : (-(2 ^ 64) < a ∧ a < 2 ^ 64) ∨ (-(2 ^ 64) < b ∧ b < 2 ^ 64)) (h : Q (.int (a * b)) st) : binQ st .mul (.int a) (.int b) Q := ⟨s, h⟩
theorem go_fdiv (s : 0 < b ∧ b < 1073741824) (h : Q (.int (a / b)) st) : binQ st .fdiv (.int a) (.int b) Q := ⟨s.1, s.2, h⟩
theorem go_mod (s : 0 < b) (h : Q (.int (a % b)) st) : binQ st .mod (.int a) (.int b) Q := ⟨s, h⟩
theorem go_pow (s : 0 ≤ b ∧ b ≤ 1000000 ∧ a.natAbs < 2 ^ 64) (h : Q (.int (a ^ b.toNat)) st) : binQ st .pow (.int a) (.int b) Q := ⟨s.1, s.2.1, s.2.2, h⟩
theorem go_sadd {x y : List Nat} (s : x.length + y.length ≤ line) (h : Q (.str (x ++ y)) st) : binQ st .add (.str x) (.str y) Q := ⟨s, h⟩
theorem go_int (h : Q (.int i) st) : prQ .int [.int i] st Q := h
theorem go_intb {k : Bool} (h : Q (.int (if k then 1 else 0)) st) : prQ .int [.bl k] st Q := h
theorem go_abs (h : Q (.int (if i < 0 then -i else i)) st) : prQ .abs [.int i] st Q := h
theorem go_lens {x : List Nat} (s : x.length ≤ line) (h : Q (.int x.length) st) : prQ .len [.str x] st Q := ⟨s, h⟩
theorem go_lent {x : List D} (h : Q (.int x.length) st) : prQ .len [.tup x] st Q := h
theorem go_lenl {x : List D} {g : Nat} (e : st[g]? = some (.lst x)) (h : Q (.int x.length) st) : prQ .len [.ref g] st Q := by
  unfold prQ
  dsimp only
  rw [e]
  exact h
theorem go_lenf {x : List D} {g : Nat} (e : st[g]? = some (.fro x)) (h : Q (.int x.length) st) : prQ .len [.ref g] st Q := by
  unfold prQ
  dsimp only
  rw [e]
  exact h
theorem go_il {x : List D} {g j : Nat} {c : D} (e : st[g]? = some (.lst x)) (e2 : ixOf x.length i = some j) (e3 : x[j]? = some c) (h : Q c st) : idxQ T st (.ref g) (.int i) Q := by
  unfold idxQ
  dsimp only
  rw [e]
  dsimp only
  refine ⟨i, rfl, ?_⟩
  rw [e2]
  exact ⟨c, e3, h⟩
theorem go_if_ {x : List D} {g j : Nat} {c : D} (e : st[g]? = some (.fro x)) (e2 : ixOf x.length i = some j) (e3 : x[j]? = some c) (h : Q c st) : idxQ T st (.ref g) (.int i) Q := by
  unfold idxQ
  dsimp only
  rw [e]
  dsimp only
  refine ⟨i, rfl, ?_⟩
  rw [e2]
  exact ⟨c, e3, h⟩
theorem go_it {x : List D} {j : Nat} {c : D} (e2 : ixOf x.length i = some j) (e3 : x[j]? = some c) (h : Q c st) : idxQ T st (.tup x) (.int i) Q := by
  unfold idxQ
  dsimp only
  rw [e2]
  exact ⟨c, e3, h⟩
theorem go_set {x : List D} {g j : Nat} {v : D} {R : Store → Prop} (e : st[g]? = some (.lst x)) (e2 : ixOf x.length i = some j) (h : R (st.set g (.lst (x.set j v)))) : setQ st (.ref g) (.int i) v R := by
  unfold setQ
  dsimp only
  rw [e]
  exact ⟨i, j, rfl, e2, h⟩
end
section
variable {Q : Bool → Prop} {a b : Int}
theorem go_lt (h : Q (decide (a < b))) : cmpQ T st .lt (.int a) (.int b) Q := h
theorem go_le (h : Q (decide (a ≤ b))) : cmpQ T st .le (.int a) (.int b) Q := h
theorem go_gt (h : Q (decide (b < a))) : cmpQ T st .gt (.int a) (.int b) Q := h
theorem go_ge (h : Q (decide (b ≤ a))) : cmpQ T st .ge (.int a) (.int b) Q := h
theorem go_eqi (h : Q (decide (a = b))) : cmpQ T st .eq (.int a) (.int b) Q := h
theorem go_nei (h : Q (!decide (a = b))) : cmpQ T st .ne (.int a) (.int b) Q := h
theorem go_eqs {x y : List Nat} (h : Q (decide (x = y))) : cmpQ T st .eq (.str x) (.str y) Q := h
theorem go_nes {x y : List Nat} (h : Q (!decide (x = y))) : cmpQ T st .ne (.str x) (.str y) Q := h
theorem go_tb {k : Bool} (h : Q k) : truQ st (.bl k) Q := h
end
theorem go_t {p q : Prop} (h : p) : if true = true then p else q := h
theorem go_f {p q : Prop} (h : q) : if false = true then p else q := h
theorem go_dt {c : Prop} [Decidable c] {p q : Prop} (hc : c) (h : p) : if decide c = true then p else q := by rw [if_pos (decide_eq_true hc)]; exact h
theorem go_df {c : Prop} [Decidable c] {p q : Prop} (hc : ¬ c) (h : q) : if decide c = true then p else q := by rw [if_neg (by rw [decide_eq_false hc]; exact Bool.false_ne_true)]; exact h
theorem go_dc {c : Prop} [Decidable c] {p q : Prop} (h : c → p) (h' : ¬ c → q) : if decide c = true then p else q := by
  by_cases hc : c
  · exact go_dt hc (h hc)
  · exact go_df hc (h' hc)
theorem cmp_rng {T : Tab} {C : Calls} {elt : E} {i0 : Nat} {env : Env} {h : Nat} {Q : QE} (R : D → Prop) (Iv : Store → Prop) (n : Nat)
    (turn : ∀ (i : Nat) (st : Store) (acc : List D) (Q' : QE), Iv st → st[h]? = some (.lst acc) → (∀ d st', R d → st'[h]? = some (.lst acc) → Iv st' → (∀ acc', Iv (st'.set h (.lst acc'))) → Q' d st') → wpE T C none elt (env.set i0 (some (.int i))) st Q' fun _ _ => False)
    (done : ∀ (ds : List D) (st : Store), ds.length = n → (∀ d ∈ ds, R d) → st[h]? = some (.lst ds) → Iv st → Q (.ref h) st) (hn : n < line) :
    ∀ (m i : Nat) (acc : List D) (st : Store), m + i = n → acc.length = i → (∀ d ∈ acc, R d) → st[h]? = some (.lst acc) → Iv st →
      cmpN (.seq (rngD 0 n)) (.nm i0) (fun e s P => wpTs T C none .nil e s P) (fun e s P => wpE T C none elt e s P fun _ _ => False) h Q (m + 1) i env st
  | 0, i, acc, st, e, el, ha, eh, iv => by
    unfold cmpN
    have at_ : (J.seq (rngD 0 n)).at i st = some none := by
      show some ((rngD 0 n)[i]?) = some none
      unfold rngD
      rw [List.getElem?_eq_none (by simp; omega)]
    rw [at_]
    exact done acc st (by omega) ha eh iv
  | m + 1, i, acc, st, e, el, ha, eh, iv => by
    unfold cmpN
    have at_ : (J.seq (rngD 0 n)).at i st = some (some (.int i)) := by
      show some ((rngD 0 n)[i]?) = some (some (.int i))
      unfold rngD
      rw [List.getElem?_map, List.getElem?_range (by omega)]
      simp
    rw [at_]
    refine turn i st acc _ iv eh fun d st' r eh' iv' ks => ?_
    rw [eh']
    have lt : h < st'.length := (List.getElem?_eq_some_iff.mp eh').1
    refine ⟨by omega, cmp_rng R Iv n turn done hn m (i + 1) (acc ++ [d]) _ (by omega) (by simp [el]) (fun x hx => ?_) (List.getElem?_set_self lt) (ks _)⟩
    rcases List.mem_append.mp hx with z | z
    · exact ha x z
    · rw [List.mem_singleton.mp z]
      exact r
end
end Y
set_option linter.all false
set_option maxHeartbeats 4000000
set_option maxRecDepth 100000
namespace Y
open PySem
theorem join_y (a : List Nat) (ys : List (List Nat)) : (Txt.join ⟨a.toArray⟩ (ys.map fun y => ⟨y.toArray⟩)).cps.toList = TL.joinL a ys := by
  have h := TL.tl_join ⟨a.toArray⟩ (ys.map fun y => ⟨y.toArray⟩)
  rw [← TL.join_eq] at h
  have e : (ys.map fun y => (⟨y.toArray⟩ : Str)).map TL.tl = ys := by
    rw [List.map_map]
    exact List.map_id' ys
  rw [e] at h
  exact h
theorem split_y {s : Nat} (hs : s < 256) {parts : List (List Nat)} (hne : parts ≠ []) (hp : ∀ p ∈ parts, s ∉ p) : (Txt.split ⟨(TL.joinL [s] parts).toArray⟩ ⟨[s].toArray⟩).map (fun z => D.str z.cps.toList) = parts.map D.str := by
  have hk : (⟨[s].toArray⟩ : Str).cps.all (· < 256) = true := by simp [hs]
  have q := TL.split_join (y := ⟨[s].toArray⟩) (s := s) (S := []) rfl hk (parts := parts.map fun y => ⟨y.toArray⟩) (by simpa using hne) (fun p hm => by
    obtain ⟨z, hz, rfl⟩ := List.mem_map.mp hm
    exact hp z hz)
  have e : (⟨(TL.joinL [s] parts).toArray⟩ : Str) = Txt.join ⟨[s].toArray⟩ (parts.map fun y => ⟨y.toArray⟩) := by
    rw [← join_y]
  rw [e, q, List.map_map]
  rfl
section
variable {st : Store} {Q : QE}
theorem go_join {a : List Nat} {d : D} {ys : List (List Nat)} (e : seqOf st d = some (ys.map D.str)) (b : (ys.map List.length).sum + ys.length * a.length ≤ 16777216) (h : Q (.str (TL.joinL a ys)) st) : meQ .join (.str a) [d] st Q := by
  refine ⟨ys, e, b, ?_⟩
  rw [join_y]
  exact h
theorem go_split {s : Nat} {parts : List (List Nat)} (hs : s < 256) (hne : parts ≠ []) (hp : ∀ p ∈ parts, s ∉ p) (b : (TL.joinL [s] parts).length + 2 ≤ line) (h : Q (.ref st.length) (st ++ [.lst (parts.map D.str)])) : meQ .split (.str (TL.joinL [s] parts)) [.str [s]] st Q := by
  refine ⟨by simp, b, ?_⟩
  rw [split_y hs hne hp]
  exact h
theorem go_app {g : Nat} {xs : List D} {d : D} (e : st[g]? = some (.lst xs)) (b : xs.length < line) (h : Q .non (st.set g (.lst (xs ++ [d])))) : meQ .append (.ref g) [d] st Q := by
  unfold meQ
  dsimp only
  rw [e]
  exact ⟨b, h⟩
theorem go_is {T : Tab} {x : List Nat} {i : Int} {j c : Nat} (b : x.length ≤ line) (e2 : ixOf x.length i = some j) (e3 : x[j]? = some c) (h : Q (.str [c]) st) : idxQ T st (.str x) (.int i) Q := by
  refine ⟨b, ?_⟩
  rw [e2]
  exact ⟨c, e3, h⟩
theorem go_tol {g : Nat} {xs : List D} (e : st[g]? = some (.lst xs)) (h : Q (.tup xs) st) : prQ .tuple [.ref g] st Q := by
  unfold prQ
  dsimp only
  rw [e]
  exact h
theorem go_lol {g : Nat} {xs : List D} (e : st[g]? = some (.lst xs)) (h : Q (.ref st.length) (st ++ [.lst xs])) : prQ .list [.ref g] st Q := by
  unfold prQ
  dsimp only
  rw [e]
  exact h
end
theorem ix_pos {n : Nat} {i : Int} (h : 0 ≤ i) (l : i < n) : ixOf n i = some i.toNat := by
  unfold ixOf
  rw [if_pos h, if_pos l]
theorem joinL_len (a : List Nat) : ∀ ys : List (List Nat), (TL.joinL a ys).length ≤ (ys.map List.length).sum + ys.length * a.length
  | [] => by simp [TL.joinL]
  | [p] => by simp [TL.joinL]
  | p :: q :: r => by
    have h := joinL_len a (q :: r)
    show (p ++ (a ++ TL.joinL a (q :: r))).length ≤ _
    rw [List.length_append, List.length_append, List.map_cons, List.sum_cons, List.length_cons (a := p), Nat.succ_mul]
    omega
theorem line_eq : line = sizeLine := rfl
theorem go_bt {b : Bool} {p q : Prop} (e : b = true) (h : p) : if b = true then p else q := by rw [if_pos e]; exact h
theorem go_bf {b : Bool} {p q : Prop} (e : b = false) (h : q) : if b = true then p else q := by rw [if_neg (by rw [e]; exact Bool.false_ne_true)]; exact h
theorem go_fs {x : List Nat} {Q : List Nat → Prop} (b : x.length ≤ line) (h : Q x) : fmtQ (.str x) Q := ⟨b, h⟩
theorem go_fi {i : Int} {Q : List Nat → Prop} (b : i.natAbs.log2 < 1920) (h : Q (decI i)) : fmtQ (.int i) Q := ⟨b, h⟩
theorem go_stri {i : Int} {st : Store} {Q : QE} (b : i.natAbs.log2 < 1920) (h : Q (.str (decI i)) st) : prQ .str [.int i] st Q := ⟨b, h⟩
end Y
set_option linter.all false
set_option maxHeartbeats 4000000
set_option maxRecDepth 100000
namespace Y
theorem for_j {j : J} {tg : Tg} {body : Env → Store → K → Prop} {k : K} (n : Nat) (Iv : Nat → Env → Store → Prop)
    (bd : ∀ (i : Nat) (env : Env) (st : Store) (N : Env → Store → Prop), i < n → Iv i env st → (∀ e s, Iv (i + 1) e s → N e s) → ∃ d env', j.at i st = some (some d) ∧ bindT tg d env = some env' ∧ body env' st { k with nx := N, ct := N, bk := k.nx })
    (done : ∀ (env : Env) (st : Store), Iv n env st → j.at n st = some none ∧ k.nx env st) : ∀ (m i : Nat) (env : Env) (st : Store), m + i = n → Iv i env st → forN j tg body k (m + 1) i env st
  | 0, i, env, st, e, iv => by
    have e : i = n := by omega
    subst e
    unfold forN
    rw [(done env st iv).1]
    exact (done env st iv).2
  | m + 1, i, env, st, e, iv => by
    unfold forN
    obtain ⟨d, env', h1, h2, h3⟩ := bd i env st (forN j tg body k (m + 1) (i + 1)) (by omega) iv fun e' s' iv' => for_j n Iv bd done m (i + 1) e' s' (by omega) iv'
    rw [h1]
    dsimp only
    rw [h2]
    exact h3
theorem go_nins {T : Tab} {st : Store} {Q : Bool → Prop} {a b : List Nat} {r : Bool} (e : (!(PySem.Builtin.Str.occurrences ⟨b.toArray⟩ ⟨a.toArray⟩ 0 b.length 1).isEmpty) = r) (h : Q (!r)) : cmpQ T st .nin (.str a) (.str b) Q := by
  subst e
  exact h
theorem go_nint {T : Tab} {st : Store} {Q : Bool → Prop} {x : D} {ds : List D} {r : Bool} (f : flatD x = true) (fs : ds.all flatD = true) (e : inD x ds = r) (h : Q (!r)) : cmpQ T st .nin x (.tup ds) Q := by
  subst e
  cases x <;> first
    | exact ⟨f, fs, h⟩
    | cases f
theorem go_slil {st : Store} {Q : QE} {g : Nat} {xs ys : List D} {lo hi : Option Int} (e : st[g]? = some (.lst xs)) (c : cutL xs lo hi = ys) (h : Q (.ref st.length) (st ++ [.lst ys])) : sliQ st (.ref g) lo hi Q := by
  subst c
  unfold sliQ
  dsimp only
  rw [e]
  exact h
theorem go_ptS {i : Int} {Q : Option Int → Prop} (h : Q (some i)) : partQ (.int i) Q := h
theorem go_ptN {Q : Option Int → Prop} (h : Q none) : partQ .non Q := h
theorem at_enm {s : Store} {h i : Nat} {ds : List D} (e : s[h]? = some (.lst ds)) : J.at (.enm h) i s = some (ds[i]?.map fun d => .tup [.int i, d]) := by
  unfold J.at
  dsimp only
  rw [e]
theorem at_lst {s : Store} {h i : Nat} {ds : List D} (e : s[h]? = some (.lst ds)) : J.at (.lst h) i s = some ds[i]? := by
  unfold J.at
  dsimp only
  rw [e]
theorem meOk_l {m : Me} {s : Store} {g : Nat} {xs : List D} (e : s[g]? = some (.lst xs)) (ht : meT m = .list) : meOk m s (.ref g) := by
  unfold meOk
  dsimp only
  rw [e]
  exact ht
theorem enm_l {s : Store} {g : Nat} {xs : List D} {R : J → Prop} (e : s[g]? = some (.lst xs)) (h : R (.enm g)) : enmQ s (.ref g) R := by
  unfold enmQ
  dsimp only
  rw [e]
  exact h
theorem walk_l {s : Store} {g : Nat} {xs : List D} {R : J → Prop} (e : s[g]? = some (.lst xs)) (h : R (.lst g)) : walkQ s (.ref g) R := by
  unfold walkQ
  dsimp only
  rw [e]
  exact h
theorem isi_l {s : Store} {g : Nat} {xs : List D} (e : s[g]? = some (.lst xs)) : tyOf s (.ref g) = some .list ∧ hasTy s (.ref g) = true := by
  unfold tyOf hasTy
  dsimp only
  rw [e]
  exact ⟨rfl, rfl⟩
theorem set_last (st : Store) (o o' : O) : (st ++ [o]).set st.length o' = st ++ [o'] := by
  rw [List.set_append_right _ _ (Nat.le_refl _)]
  simp
end Y
set_option linter.all false
set_option maxHeartbeats 4000000
set_option maxRecDepth 100000
namespace Y
open PySem
universe u v
structure Tok {α : Sort u} (a : α) : Type where
def lz {α : Sort u} (a : α) (_ : Tok a) : α := a
theorem lz1 {α : Sort u} {β : Sort v} (f : α → β) (t : Tok f) (x : α) : lz f t x = f x := rfl
def ifL (b : Bool) (p q : Unit → Prop) : Prop := if b = true then p () else q ()
theorem z_ifT (p q : Unit → Prop) : ifL true p q = p () := by unfold ifL; rw [if_pos rfl]
theorem z_ifF (p q : Unit → Prop) : ifL false p q = q () := by unfold ifL; rw [if_neg Bool.false_ne_true]
theorem ifd {c : Prop} [Decidable c] {p q : Unit → Prop} (h : c → p ()) (h' : ¬ c → q ()) : ifL (decide c) p q := by
  by_cases hc : c
  · rw [decide_eq_true hc, z_ifT]; exact h hc
  · rw [decide_eq_false hc, z_ifF]; exact h' hc
theorem ifb {b : Bool} {p q : Unit → Prop} (h : b = true → p ()) (h' : b = false → q ()) : ifL b p q := by
  cases b
  · rw [z_ifF]; exact h' rfl
  · rw [z_ifT]; exact h rfl
def ks (T : Tab) (C : Calls) (hx : Option Exc) (b : B) (k : K) (_ : Tok k) : K := { k with nx := fun e s' => wpB T C hx b e s' k }
def kl (N : Env → Store → Prop) (k : K) (_ : Tok k) : K := { k with nx := N, ct := N, bk := k.nx }
def kc (Q : QE) (X : QX) (_ : Tok Q) (_ : Tok X) : K := ⟨fun _ s => Q .non s, Q, fun _ _ => False, fun _ _ => False, fun e _ s => X e s⟩
def kt (T : Tab) (C : Calls) (hs : Hs) (k : K) (_ : Tok k) : K := { k with xc := fun e env' s' => wpH T C hs e env' s' k }
def kh (k : K) (nm : Option Nat) (_ : Tok k) : K := ⟨fun e' s' => k.nx (unset nm e') s', k.rt, fun _ _ => False, fun _ _ => False, fun _ _ _ => False⟩
section
variable {T : Tab} {C : Calls} {hx : Option Exc} {b : B} {k : K} {t : Tok k} {N : Env → Store → Prop} {Q : QE} {X : QX} {tq : Tok Q} {tx : Tok X} {hs : Hs} {nm : Option Nat} {e : Env} {s : Store} {d : D} {x : Exc}
theorem ks_nx : (ks T C hx b k t).nx e s = wpB T C hx b e s k := rfl
theorem ks_rt : (ks T C hx b k t).rt d s = k.rt d s := rfl
theorem ks_bk : (ks T C hx b k t).bk e s = k.bk e s := rfl
theorem ks_ct : (ks T C hx b k t).ct e s = k.ct e s := rfl
theorem ks_xc : (ks T C hx b k t).xc x e s = k.xc x e s := rfl
theorem kl_nx : (kl N k t).nx e s = N e s := rfl
theorem kl_rt : (kl N k t).rt d s = k.rt d s := rfl
theorem kl_bk : (kl N k t).bk e s = k.nx e s := rfl
theorem kl_ct : (kl N k t).ct e s = N e s := rfl
theorem kl_xc : (kl N k t).xc x e s = k.xc x e s := rfl
theorem kc_nx : (kc Q X tq tx).nx e s = Q .non s := rfl
theorem kc_rt : (kc Q X tq tx).rt d s = Q d s := rfl
theorem kc_xc : (kc Q X tq tx).xc x e s = X x s := rfl
theorem kt_nx : (kt T C hs k t).nx e s = k.nx e s := rfl
theorem kt_rt : (kt T C hs k t).rt d s = k.rt d s := rfl
theorem kt_bk : (kt T C hs k t).bk e s = k.bk e s := rfl
theorem kt_ct : (kt T C hs k t).ct e s = k.ct e s := rfl
theorem kt_xc : (kt T C hs k t).xc x e s = wpH T C hs x e s k := rfl
theorem kh_nx : (kh k nm t).nx e s = k.nx (unset nm e) s := rfl
theorem kh_rt : (kh k nm t).rt d s = k.rt d s := rfl
end
theorem un_n {e : Env} : unset none e = e := rfl
theorem un_s {e : Env} {i : Nat} : unset (some i) e = e.set i none := rfl
def isNon : D → Bool
  | .non => true
  | _ => false
theorem isNon_eq (d : D) : decide (d = .non) = isNon d := by cases d <;> first | rfl | exact decide_eq_false (by intro h; cases h)
theorem isNon_1 : isNon .non = true := rfl
theorem isNon_2 {b} : isNon (.bl b) = false := rfl
theorem isNon_3 {b} : isNon (.int b) = false := rfl
theorem isNon_4 {b} : isNon (.str b) = false := rfl
theorem isNon_5 {b} : isNon (.tup b) = false := rfl
theorem isNon_6 {b} : isNon (.ref b) = false := rfl
theorem isNon_7 {b} : isNon (.kon b) = false := rfl
def boolQ (d : D) (F : Bool → Prop) : Prop := match d with
  | .bl c => F c
  | _ => False
theorem boolQ_1 {c F} : boolQ (.bl c) F = F c := rfl
def intQ (d : D) (F : Int → Prop) : Prop := match d with
  | .int c => F c
  | _ => False
theorem intQ_1 {c F} : intQ (.int c) F = F c := rfl
def optQ {α : Type} (o : Option α) (F : α → Prop) : Prop := match o with
  | some a => F a
  | none => False
theorem optQ_1 {α : Type} {a : α} {F} : optQ (some a) F = F a := rfl
def lstQ (o : Option O) (F : List D → Prop) : Prop := match o with
  | some (.lst a) => F a
  | _ => False
theorem lstQ_1 {a F} : lstQ (some (.lst a)) F = F a := rfl
def sqQ (o : Option O) (F : List D → Prop) : Prop := match o with
  | some (.lst a) => F a
  | some (.fro a) => F a
  | _ => False
theorem sqQ_1 {a F} : sqQ (some (.lst a)) F = F a := rfl
theorem sqQ_2 {a F} : sqQ (some (.fro a)) F = F a := rfl
def insQ (o : Option O) (F : Nat → List (Nat × D) → Prop) : Prop := match o with
  | some (.ins c fs) => F c fs
  | _ => False
theorem insQ_1 {c a F} : insQ (some (.ins c a)) F = F c a := rfl
def getIx (xs : List D) (i : Int) (F : D → Prop) : Prop := match ixOf xs.length i with
  | some j => ∃ c, xs[j]? = some c ∧ F c
  | none => False
theorem getIx_of {xs : List D} {i : Int} {F : D → Prop} {j : Nat} {c : D} (e : ixOf xs.length i = some j) (e2 : xs[j]? = some c) : getIx xs i F = F c := by
  unfold getIx
  rw [e]
  dsimp only
  rw [e2]
  refine propext ⟨fun ⟨c', h, q⟩ => ?_, fun h => ⟨c, rfl, h⟩⟩
  cases h
  exact q
section
variable {a b c d e f g : D} {r : List D} {F : D → Prop}
theorem getIx_0 : getIx (a :: r) 0 F = F a := getIx_of (j := 0) (by unfold ixOf; rw [if_pos (by decide), if_pos (by simp)]; rfl) rfl
theorem getIx_1 : getIx (a :: b :: r) 1 F = F b := getIx_of (j := 1) (by unfold ixOf; rw [if_pos (by decide), if_pos (by simp; try omega)]; rfl) rfl
theorem getIx_2 : getIx (a :: b :: c :: r) 2 F = F c := getIx_of (j := 2) (by unfold ixOf; rw [if_pos (by decide), if_pos (by simp; try omega)]; rfl) rfl
theorem getIx_3 : getIx (a :: b :: c :: d :: r) 3 F = F d := getIx_of (j := 3) (by unfold ixOf; rw [if_pos (by decide), if_pos (by simp; try omega)]; rfl) rfl
theorem getIx_4 : getIx (a :: b :: c :: d :: e :: r) 4 F = F e := getIx_of (j := 4) (by unfold ixOf; rw [if_pos (by decide), if_pos (by simp; try omega)]; rfl) rfl
theorem getIx_5 : getIx (a :: b :: c :: d :: e :: f :: r) 5 F = F f := getIx_of (j := 5) (by unfold ixOf; rw [if_pos (by decide), if_pos (by simp; try omega)]; rfl) rfl
end
def setIx (xs : List D) (i : Int) (v : D) (F : List D → Prop) : Prop := match ixOf xs.length i with
  | some j => F (xs.set j v)
  | none => False
theorem setIx_of {xs : List D} {i : Int} {v : D} {F : List D → Prop} {j : Nat} (e : ixOf xs.length i = some j) : setIx xs i v F = F (xs.set j v) := by
  unfold setIx
  rw [e]
section
variable {a b c d v : D} {r : List D} {F : List D → Prop}
theorem setIx_0 : setIx (a :: r) 0 v F = F (v :: r) := setIx_of (j := 0) (by unfold ixOf; rw [if_pos (by decide), if_pos (by simp)]; rfl)
theorem setIx_1 : setIx (a :: b :: r) 1 v F = F (a :: v :: r) := setIx_of (j := 1) (by unfold ixOf; rw [if_pos (by decide), if_pos (by simp; try omega)]; rfl)
theorem setIx_2 : setIx (a :: b :: c :: r) 2 v F = F (a :: b :: v :: r) := setIx_of (j := 2) (by unfold ixOf; rw [if_pos (by decide), if_pos (by simp; try omega)]; rfl)
end
def bindL : List Nat → List D → Env → (Env → Prop) → Prop
  | [], [], e, F => F e
  | i :: is, d :: ds, e, F => bindL is ds (e.set i (some d)) F
  | _, _, _, _ => False
def bindQ (tg : Tg) (d : D) (env : Env) (F : Env → Prop) : Prop := match bindT tg d env with
  | some env' => F env'
  | none => False
theorem bindQ_nm {i d env F} : bindQ (.nm i) d env F = F (env.set i (some d)) := rfl
theorem bindL_0 {e F} : bindL [] [] e F = F e := rfl
theorem bindL_1 {i is d ds e F} : bindL (i :: is) (d :: ds) e F = bindL is ds (e.set i (some d)) F := rfl
theorem bindL_eq : ∀ (is : List Nat) (ds : List D) (env : Env) (F : Env → Prop), (match (if ds.length = is.length then some ((is.zip ds).foldl (fun e p => e.set p.1 (some p.2)) env) else none) with | some env' => F env' | none => False) = bindL is ds env F
  | [], [], env, F => rfl
  | [], d :: ds, env, F => by simp [bindL]
  | i :: is, [], env, F => by simp [bindL]
  | i :: is, d :: ds, env, F => by
    have h := bindL_eq is ds (env.set i (some d)) F
    rw [bindL_1, ← h]
    simp only [List.length_cons, Nat.add_right_cancel_iff, List.zip_cons_cons, List.foldl_cons]
theorem bindQ_tp {is ds env F} : bindQ (.tp is) (.tup ds) env F = bindL is ds env F := bindL_eq is ds env F
section
variable {T : Tab} {C : Calls} {hx : Option Exc} {env : Env} {st : Store} {X : QX}
section
variable {Q : QE}
theorem z_var {i : Nat} : wpE T C hx (.var i) env st Q X = getV env i (lz (fun d => Q d st) .mk) := rfl
theorem z_con {d : D} : wpE T C hx (.con d) env st Q X = Q d st := rfl
theorem z_glo {i : Nat} : wpE T C hx (.glo i) env st Q X = optQ (T.glo i) (lz (fun d => Q d st) .mk) := by
  unfold wpE
  cases T.glo i <;> rfl
theorem z_bin {o : Op} {a b : E} : wpE T C hx (.bin o a b) env st Q X = wpE T C hx a env st (lz (fun x s1 => wpE T C hx b env s1 (lz (fun y s2 => binQ s2 o x y Q) .mk) X) .mk) X := rfl
theorem z_neg {a : E} : wpE T C hx (.neg a) env st Q X = wpE T C hx a env st (lz (fun x s1 => intQ x (lz (fun i => Q (.int (-i)) s1) .mk)) .mk) X := rfl
theorem z_cmp {o : Cm} {a b : E} : wpE T C hx (.cmp o a b) env st Q X = wpE T C hx a env st (lz (fun x s1 => wpE T C hx b env s1 (lz (fun y s2 => cmpQ T s2 o x y (lz (fun b => Q (.bl b) s2) .mk)) .mk) X) .mk) X := rfl
theorem z_chain {o o' : Cm} {a b c : E} : wpE T C hx (.chain o o' a b c) env st Q X = wpE T C hx a env st (lz (fun x s1 => wpE T C hx b env s1 (lz (fun y s2 => cmpQ T s2 o x y (lz (fun k => ifL k (lz (fun _ => wpE T C hx c env s2 (lz (fun z s3 => cmpQ T s3 o' y z (lz (fun b => Q (.bl b) s3) .mk)) .mk) X) .mk) (lz (fun _ => Q (.bl false) s2) .mk)) .mk)) .mk) X) .mk) X := rfl
theorem z_isN {a : E} : wpE T C hx (.isN a) env st Q X = wpE T C hx a env st (lz (fun x s1 => Q (.bl (isNon x)) s1) .mk) X := by
  show wpE T C hx a env st (fun x s1 => Q (.bl (decide (x = .non))) s1) X = _
  simp only [isNon_eq, lz]
theorem z_notN {a : E} : wpE T C hx (.notN a) env st Q X = wpE T C hx a env st (lz (fun x s1 => Q (.bl (!isNon x)) s1) .mk) X := by
  show wpE T C hx a env st (fun x s1 => Q (.bl (!decide (x = .non))) s1) X = _
  simp only [isNon_eq, lz]
theorem z_and {a b : E} : wpE T C hx (.and a b) env st Q X = wpE T C hx a env st (lz (fun x s1 => boolQ x (lz (fun c => ifL c (lz (fun _ => wpE T C hx b env s1 Q X) .mk) (lz (fun _ => Q (.bl false) s1) .mk)) .mk)) .mk) X := rfl
theorem z_or {a b : E} : wpE T C hx (.or a b) env st Q X = wpE T C hx a env st (lz (fun x s1 => boolQ x (lz (fun c => ifL c (lz (fun _ => Q (.bl true) s1) .mk) (lz (fun _ => wpE T C hx b env s1 Q X) .mk)) .mk)) .mk) X := rfl
theorem z_not {a : E} : wpE T C hx (.not a) env st Q X = wpE T C hx a env st (lz (fun x s1 => boolQ x (lz (fun c => Q (.bl (!c)) s1) .mk)) .mk) X := rfl
theorem z_ife {c a b : E} : wpE T C hx (.ife c a b) env st Q X = wpT T C hx c env st (lz (fun k s1 => ifL k (lz (fun _ => wpE T C hx a env s1 Q X) .mk) (lz (fun _ => wpE T C hx b env s1 Q X) .mk)) .mk) X := rfl
theorem z_call {f : Nat} {as : A} {df : List D} : wpE T C none (.call f as df) env st Q X = wpA T C none as env st (lz (fun ds s1 => C f (ds ++ df) s1 Q X) .mk) X := propext ⟨fun h => h.2, fun h => ⟨rfl, h⟩⟩
theorem z_make {c f : Nat} {as : A} : wpE T C none (.make c f as) env st Q X = wpA T C none as env st (lz (fun ds s1 => C f (.ref s1.length :: ds) (s1 ++ [.ins c []]) (lz (fun d s2 => d = .non ∧ Q (.ref s1.length) s2) .mk) X) .mk) X := propext ⟨fun h => h.2, fun h => ⟨rfl, h⟩⟩
def methQ (x : D) (alts : List (Nat × Nat)) (st : Store) (F : Nat → Prop) : Prop := match x with
  | .ref h => (match st[h]? with
    | some (.ins c fs) => (match alts.lookup c with
      | some f => F f
      | none => False)
    | _ => False)
  | _ => False
theorem methQ_1 {h alts st F} : methQ (.ref h) alts st F = insQ st[h]? (lz (fun c _ => optQ (alts.lookup c) F) .mk) := by
  unfold methQ
  dsimp only
  cases st[h]? with
  | none => rfl
  | some o =>
    cases o with
    | ins c fs =>
      show _ = optQ (alts.lookup c) F
      dsimp only
      cases alts.lookup c <;> rfl
    | _ => rfl
theorem z_meth {alts : List (Nat × Nat)} {o : E} {as : A} : wpE T C none (.meth alts o as) env st Q X = wpE T C none o env st (lz (fun x s1 => methQ x alts s1 (lz (fun f => wpA T C none as env s1 (lz (fun ds s2 => C f (x :: ds) s2 Q X) .mk) X) .mk)) .mk) X := propext ⟨fun h => h.2, fun h => ⟨rfl, h⟩⟩
theorem z_fld {f : Nat} {o : E} : wpE T C hx (.fld f o) env st Q X = wpE T C hx o env st (lz (fun x s1 => fldQ s1 x f Q) .mk) X := rfl
theorem z_pr {p : Pr} {as : A} : wpE T C none (.pr p as) env st Q X = wpA T C none as env st (lz (fun ds s1 => prQ p ds s1 Q) .mk) X := propext ⟨fun h => h.2, fun h => ⟨rfl, h⟩⟩
theorem z_me {m : Me} {o : E} {as : A} : wpE T C hx (.me m o as) env st Q X = wpE T C hx o env st (lz (fun x s1 => meOk m s1 x ∧ wpA T C hx as env s1 (lz (fun ds s2 => meQ m x ds s2 Q) .mk) X) .mk) X := rfl
def isiQ (T : Tab) (st : Store) (x : D) (ts : List Ty) (F : Bool → Prop) : Prop := hasTy st x = true ∧ F (ts.any fun t => isTy T (tyOf st x) t)
theorem z_isi {a : E} {ts : List Ty} : wpE T C hx (.isi a ts) env st Q X = wpE T C hx a env st (lz (fun x s1 => isiQ T s1 x ts (lz (fun b => Q (.bl b) s1) .mk)) .mk) X := rfl
theorem z_idx {a b : E} : wpE T C hx (.idx a b) env st Q X = wpE T C hx a env st (lz (fun x s1 => wpE T C hx b env s1 (lz (fun y s2 => idxQ T s2 x y Q) .mk) X) .mk) X := rfl
theorem z_sli {a lo hi : E} : wpE T C hx (.sli a lo hi) env st Q X = wpE T C hx a env st (lz (fun x s1 => wpE T C hx lo env s1 (lz (fun l s2 => partQ l (lz (fun l' => wpE T C hx hi env s2 (lz (fun u s3 => partQ u (lz (fun u' => sliQ s3 x l' u' Q) .mk)) .mk) X) .mk)) .mk) X) .mk) X := rfl
theorem z_abs0 : wpE T C hx .abs0 env st Q X = Q .non st := rfl
theorem z_tup {as : A} : wpE T C hx (.tup as) env st Q X = wpA T C hx as env st (lz (fun ds s1 => Q (.tup ds) s1) .mk) X := rfl
theorem z_lst {as : A} : wpE T C hx (.lst as) env st Q X = wpA T C hx as env st (lz (fun ds s1 => Q (.ref s1.length) (s1 ++ [.lst ds])) .mk) X := rfl
theorem z_fstr {as : A} : wpE T C hx (.fstr as) env st Q X = wpF T C hx as env st [] (lz (fun y s1 => Q (.str y) s1) .mk) X := rfl
theorem z_efld {f : Nat} {e : Exc} : wpE T C (some e) (.efld f) env st Q X = optQ (e.fs.lookup f) (lz (fun d => Q d st) .mk) := by
  show (match e.fs.lookup f with | some d => Q d st | none => False) = _
  cases e.fs.lookup f <;> rfl
theorem z_eisi {cs : List Nat} {e : Exc} : wpE T C (some e) (.eisi cs) env st Q X = Q (.bl (cs.any fun c => T.sub e.cls c)) st := rfl
theorem z_comp {elt it : E} {tg : Tg} {cs : A} {own : List Nat} : wpE T C none (.comp elt tg it cs own) env st Q X = wpI T C none it env st (lz (fun j s1 => ∃ n, cmpN j tg (lz (fun e s P => wpTs T C none cs e s P) .mk) (lz (fun e s P => wpE T C none elt e s P (fun _ _ => False)) .mk) s1.length Q n 0 (wipeE env own) (s1 ++ [.lst []])) .mk) X := propext ⟨fun h => h.2, fun h => ⟨rfl, h⟩⟩
end
section
variable {Q : Bool → Store → Prop}
theorem z_Tcmp {o : Cm} {a b : E} : wpT T C hx (.cmp o a b) env st Q X = wpE T C hx a env st (lz (fun x s1 => wpE T C hx b env s1 (lz (fun y s2 => cmpQ T s2 o x y (lz (fun b => Q b s2) .mk)) .mk) X) .mk) X := rfl
theorem z_Tchain {o o' : Cm} {a b c : E} : wpT T C hx (.chain o o' a b c) env st Q X = wpE T C hx a env st (lz (fun x s1 => wpE T C hx b env s1 (lz (fun y s2 => cmpQ T s2 o x y (lz (fun k => ifL k (lz (fun _ => wpE T C hx c env s2 (lz (fun z s3 => cmpQ T s3 o' y z (lz (fun b => Q b s3) .mk)) .mk) X) .mk) (lz (fun _ => Q false s2) .mk)) .mk)) .mk) X) .mk) X := rfl
theorem z_TisN {a : E} : wpT T C hx (.isN a) env st Q X = wpE T C hx a env st (lz (fun x s1 => Q (isNon x) s1) .mk) X := by
  show wpE T C hx a env st (fun x s1 => Q (decide (x = .non)) s1) X = _
  simp only [isNon_eq, lz]
theorem z_TnotN {a : E} : wpT T C hx (.notN a) env st Q X = wpE T C hx a env st (lz (fun x s1 => Q (!isNon x) s1) .mk) X := by
  show wpE T C hx a env st (fun x s1 => Q (!decide (x = .non)) s1) X = _
  simp only [isNon_eq, lz]
theorem z_Tand {a b : E} : wpT T C hx (.and a b) env st Q X = wpT T C hx a env st (lz (fun c s1 => ifL c (lz (fun _ => wpT T C hx b env s1 Q X) .mk) (lz (fun _ => Q false s1) .mk)) .mk) X := rfl
theorem z_Tor {a b : E} : wpT T C hx (.or a b) env st Q X = wpT T C hx a env st (lz (fun c s1 => ifL c (lz (fun _ => Q true s1) .mk) (lz (fun _ => wpT T C hx b env s1 Q X) .mk)) .mk) X := rfl
theorem z_Tnot {a : E} : wpT T C hx (.not a) env st Q X = wpT T C hx a env st (lz (fun c s1 => Q (!c) s1) .mk) X := rfl
theorem z_Ttv {e : E} : wpT T C hx (.tv e) env st Q X = wpE T C hx e env st (lz (fun x s1 => truQ s1 x (lz (fun k => Q k s1) .mk)) .mk) X := rfl
end
section
variable {Q : List D → Store → Prop}
theorem z_nil : wpA T C hx .nil env st Q X = Q [] st := rfl
theorem z_cons {e : E} {as : A} : wpA T C hx (.cons e as) env st Q X = wpE T C hx e env st (lz (fun d s1 => wpA T C hx as env s1 (lz (fun ds s2 => Q (d :: ds) s2) .mk) X) .mk) X := rfl
end
theorem z_Fnil {acc : List Nat} {Q : List Nat → Store → Prop} : wpF T C hx .nil env st acc Q X = Q acc st := rfl
theorem z_Fcons {e : E} {as : A} {acc : List Nat} {Q : List Nat → Store → Prop} : wpF T C hx (.cons e as) env st acc Q X = wpE T C hx e env st (lz (fun d s1 => fmtQ d (lz (fun y => (acc ++ y).length ≤ line ∧ wpF T C hx as env s1 (acc ++ y) Q X) .mk)) .mk) X := rfl
theorem z_Tsn {Q : Bool → Store → Prop} : wpTs T C hx .nil env st Q = Q true st := rfl
theorem z_Ts1 {e : E} {Q : Bool → Store → Prop} : wpTs T C hx (.cons e .nil) env st Q = wpT T C hx e env st Q (lz (fun _ _ => False) .mk) := rfl
section
variable {R : J → Store → Prop}
theorem z_rng1 {a : E} : wpI T C hx (.rng1 a) env st R X = wpE T C hx a env st (lz (fun x s1 => intQ x (lz (fun n => -(2 ^ 62) ≤ n ∧ n < 2 ^ 62 ∧ R (.seq (rngD 0 n.toNat)) s1) .mk)) .mk) X := rfl
def int2Q (x y : D) (F : Int → Int → Prop) : Prop := match x, y with
  | .int m, .int n => F m n
  | _, _ => False
theorem int2Q_1 {m n F} : int2Q (.int m) (.int n) F = F m n := rfl
theorem z_rng2 {a b : E} : wpI T C hx (.rng2 a b) env st R X = wpE T C hx a env st (lz (fun x s1 => wpE T C hx b env s1 (lz (fun y s2 => int2Q x y (lz (fun m n => (-(2 ^ 62) ≤ m ∧ m < 2 ^ 62 ∧ -(2 ^ 62) ≤ n ∧ n < 2 ^ 62) ∧ R (.seq (rngD m (n - m).toNat)) s2) .mk)) .mk) X) .mk) X := rfl
theorem z_enm {a : E} : wpI T C hx (.enm a) env st R X = wpE T C hx a env st (lz (fun x s1 => enmQ s1 x (lz (fun j => R j s1) .mk)) .mk) X := rfl
theorem z_zip {a b : E} : wpI T C hx (.zip a b) env st R X = wpE T C hx a env st (lz (fun x s1 => wpE T C hx b env s1 (lz (fun y s2 => zipQ s2 x y (lz (fun j => R j s2) .mk)) .mk) X) .mk) X := rfl
theorem z_sq {e : E} : wpI T C hx (.sq e) env st R X = wpE T C hx e env st (lz (fun x s1 => walkQ s1 x (lz (fun j => R j s1) .mk)) .mk) X := rfl
end
section
variable {k : K}
theorem z_Bnil : wpB T C hx .nil env st k = k.nx env st := rfl
theorem z_Bcons {s : S} {b : B} : wpB T C hx (.cons s b) env st k = wpS T C hx s env st (ks T C hx b k .mk) := rfl
theorem z_asg {i : Nat} {e : E} : wpS T C hx (.asg (.nm i) e) env st k = wpE T C hx e env st (lz (fun d s1 => k.nx (env.set i (some d)) s1) .mk) (lz (fun x s1 => k.xc x env s1) .mk) := propext ⟨fun h => h.2, fun h => ⟨trivial, h⟩⟩
theorem z_asgt {is : List Nat} {e : E} : wpS T C none (.asg (.tp is) e) env st k = wpE T C none e env st (lz (fun d s1 => bindQ (.tp is) d env (lz (fun env' => k.nx env' s1) .mk)) .mk) (lz (fun x s1 => k.xc x env s1) .mk) := propext ⟨fun h => h.2, fun h => ⟨rfl, h⟩⟩
theorem z_asg2 {i j : Nat} {a b : E} : wpS T C none (.asg2 i j a b) env st k = wpE T C none a env st (lz (fun x s1 => wpE T C none b env s1 (lz (fun y s2 => k.nx ((env.set i (some x)).set j (some y)) s2) .mk) (lz (fun x s1 => k.xc x env s1) .mk)) .mk) (lz (fun x s1 => k.xc x env s1) .mk) := propext ⟨fun h => h.2, fun h => ⟨rfl, h⟩⟩
theorem z_setf {o e : E} {f : Nat} : wpS T C hx (.setf o f e) env st k = wpE T C hx e env st (lz (fun v s1 => wpE T C hx o env s1 (lz (fun x s2 => setfQ s2 x f v (lz (fun s3 => k.nx env s3) .mk)) .mk) (lz (fun x s1 => k.xc x env s1) .mk)) .mk) (lz (fun x s1 => k.xc x env s1) .mk) := rfl
theorem z_seti {o i e : E} : wpS T C hx (.seti o i e) env st k = wpE T C hx e env st (lz (fun v s1 => wpE T C hx o env s1 (lz (fun x s2 => wpE T C hx i env s2 (lz (fun y s3 => setQ s3 x y v (lz (fun s4 => k.nx env s4) .mk)) .mk) (lz (fun x s1 => k.xc x env s1) .mk)) .mk) (lz (fun x s1 => k.xc x env s1) .mk)) .mk) (lz (fun x s1 => k.xc x env s1) .mk) := rfl
def augQ (op : Op) (x y : D) (F : Int → Prop) : Prop := match op, x, y with
  | .add, .int a, .int b => F (a + b)
  | .sub, .int a, .int b => F (a - b)
  | _, _, _ => False
theorem augQ_1 {a b F} : augQ .add (.int a) (.int b) F = F (a + b) := rfl
theorem augQ_2 {a b F} : augQ .sub (.int a) (.int b) F = F (a - b) := rfl
theorem z_augn {i : Nat} {op : Op} {e : E} : wpS T C hx (.augn i op e) env st k = getV env i (lz (fun x => wpE T C hx e env st (lz (fun y s1 => augQ op x y (lz (fun n => k.nx (env.set i (some (.int n))) s1) .mk)) .mk) (lz (fun x s1 => k.xc x env s1) .mk)) .mk) := by
  show getV env i (fun x => wpE T C hx e env st (fun y s1 => (match op, x, y with
    | .add, .int a, .int b => k.nx (env.set i (some (.int (a + b)))) s1
    | .sub, .int a, .int b => k.nx (env.set i (some (.int (a - b)))) s1
    | _, _, _ => False)) fun x s1 => k.xc x env s1) = _
  have : ∀ x y s1, (match op, x, y with
    | .add, .int a, .int b => k.nx (env.set i (some (.int (a + b)))) s1
    | .sub, .int a, .int b => k.nx (env.set i (some (.int (a - b)))) s1
    | _, _, _ => False) = augQ op x y (fun n => k.nx (env.set i (some (.int n))) s1) := fun x y s1 => by
    cases op <;> cases x <;> cases y <;> rfl
  simp only [this, lz]
theorem z_augf {o : E} {f : Nat} {op : Op} {e : E} : wpS T C hx (.augf o f op e) env st k = wpE T C hx o env st (lz (fun x s1 => fldQ s1 x f (lz (fun v s1 => wpE T C hx e env s1 (lz (fun y s2 => augQ op v y (lz (fun n => clsOf s2 x = clsOf s1 x ∧ setfQ s2 x f (.int n) (lz (fun s3 => k.nx env s3) .mk)) .mk)) .mk) (lz (fun x s1 => k.xc x env s1) .mk)) .mk)) .mk) (lz (fun x s1 => k.xc x env s1) .mk) := by
  show wpE T C hx o env st (fun x s1 => fldQ s1 x f fun v s1 => wpE T C hx e env s1 (fun y s2 => (match op, v, y with
    | .add, .int a, .int b => clsOf s2 x = clsOf s1 x ∧ setfQ s2 x f (.int (a + b)) fun s3 => k.nx env s3
    | .sub, .int a, .int b => clsOf s2 x = clsOf s1 x ∧ setfQ s2 x f (.int (a - b)) fun s3 => k.nx env s3
    | _, _, _ => False)) fun x s1 => k.xc x env s1) (fun x s1 => k.xc x env s1) = _
  have : ∀ x v y s1 s2, (match op, v, y with
    | .add, .int a, .int b => clsOf s2 x = clsOf s1 x ∧ setfQ s2 x f (.int (a + b)) fun s3 => k.nx env s3
    | .sub, .int a, .int b => clsOf s2 x = clsOf s1 x ∧ setfQ s2 x f (.int (a - b)) fun s3 => k.nx env s3
    | _, _, _ => False) = augQ op v y (fun n => clsOf s2 x = clsOf s1 x ∧ setfQ s2 x f (.int n) (fun s3 => k.nx env s3)) := fun x v y s1 s2 => by
    cases op <;> cases v <;> cases y <;> rfl
  simp only [this, lz]
theorem z_exp {e : E} : wpS T C hx (.exp e) env st k = wpE T C hx e env st (lz (fun _ s1 => k.nx env s1) .mk) (lz (fun x s1 => k.xc x env s1) .mk) := rfl
theorem z_ret {e : E} : wpS T C hx (.ret e) env st k = wpE T C hx e env st (lz (fun d s1 => k.rt d s1) .mk) (lz (fun x s1 => k.xc x env s1) .mk) := rfl
theorem z_retN : wpS T C hx .retN env st k = k.rt .non st := rfl
theorem z_if {c : E} {a b : B} : wpS T C hx (.ifS c a b) env st k = wpT T C hx c env st (lz (fun t s1 => ifL t (lz (fun _ => wpB T C hx a env s1 k) .mk) (lz (fun _ => wpB T C hx b env s1 k) .mk)) .mk) (lz (fun x s1 => k.xc x env s1) .mk) := rfl
theorem z_for {tg : Tg} {it : E} {b : B} : wpS T C none (.forS tg it b) env st k = wpI T C none it env st (lz (fun j s1 => ∃ n, forN j tg (lz (fun e s k' => wpB T C none b e s k') .mk) k n 0 env s1) .mk) (lz (fun x s1 => k.xc x env s1) .mk) := propext ⟨fun h => h.2, fun h => ⟨rfl, h⟩⟩
theorem z_whl {c : E} {b : B} : wpS T C none (.whl c b) env st k = ∃ n, whlN (lz (fun e s P => wpT T C none c e s P (lz (fun x s1 => k.xc x e s1) .mk)) .mk) (lz (fun e s k' => wpB T C none b e s k') .mk) k n env st := propext ⟨fun h => h.2, fun h => ⟨rfl, h⟩⟩
theorem z_brk : wpS T C hx .brk env st k = k.bk env st := rfl
theorem z_cnt : wpS T C hx .cnt env st k = k.ct env st := rfl
theorem z_pas : wpS T C hx .pas env st k = k.nx env st := rfl
theorem z_rais0 {c : Nat} : wpS T C none (.rais c .nil) env st k = optQ (T.exf c) (lz (fun o => o = none ∧ k.xc ⟨c, []⟩ env st) .mk) := by
  show (none = none ∧ _) = _
  cases h : T.exf c with
  | none => exact propext ⟨fun h => h.2, fun h => h.elim⟩
  | some o => cases o with
    | none => exact propext ⟨fun h => ⟨rfl, h.2⟩, fun h => ⟨rfl, h.2⟩⟩
    | some f => exact propext ⟨fun h => h.2.elim, fun h => by cases h.1⟩
theorem z_rais1 {c : Nat} {e : E} : wpS T C none (.rais c (.cons e .nil)) env st k = optQ (T.exf c) (lz (fun o => optQ o (lz (fun f => wpE T C none e env st (lz (fun d s1 => k.xc ⟨c, [(f, d)]⟩ env s1) .mk) (lz (fun x s1 => k.xc x env s1) .mk)) .mk)) .mk) := by
  show (none = none ∧ _) = _
  cases h : T.exf c with
  | none => exact propext ⟨fun h => h.2, fun h => h.elim⟩
  | some o => cases o with
    | none => exact propext ⟨fun h => h.2, fun h => h.elim⟩
    | some f => exact propext ⟨fun h => h.2, fun h => ⟨rfl, h⟩⟩
theorem z_try {b : B} {hs : Hs} : wpS T C none (.tryS b hs) env st k = wpB T C none b env st (kt T C hs k .mk) := propext ⟨fun h => h.2, fun h => ⟨rfl, h⟩⟩
theorem z_Hnil {e : Exc} : wpH T C .nil e env st k = k.xc e env st := rfl
theorem z_Hcons {c : Nat} {nm : Option Nat} {b : B} {hs : Hs} {e : Exc} : wpH T C (.cons c nm b hs) e env st k = ifL (T.sub e.cls c) (lz (fun _ => wpB T C (some e) b (unset nm env) st (kh k nm .mk)) .mk) (lz (fun _ => wpH T C hs e env st k) .mk) := rfl
end
theorem call_z {k f : Nat} {ds : List D} {Q : QE} (fn : Fn) (h : T.fn f = some fn) (hl : ds.length = fn.np)
    (b : wpB T (Call T k) none fn.body (ds.map some ++ List.replicate (fn.ns - fn.np) none) st (kc Q X .mk .mk)) : Call T (k + 1) f ds st Q X := call_go fn h hl b
section
variable {Q : QE} {a b i : Int}
theorem v_v0 {d : D} {Q : D → Prop} : getV (some d :: env) 0 Q = Q d := rfl
theorem v_vs {a : Option D} {i : Nat} {Q : D → Prop} : getV (a :: env) (i + 1) Q = getV env i Q := getV_s a env i Q
theorem v_add : binQ st .add (.int a) (.int b) Q = Q (.int (a + b)) st := rfl
theorem v_sub : binQ st .sub (.int a) (.int b) Q = Q (.int (a - b)) st := rfl
def mulOk (a b : Int) : Prop := (-(2 ^ 64) < a ∧ a < 2 ^ 64) ∨ (-(2 ^ 64) < b ∧ b < 2 ^ 64)
theorem v_mul : binQ st .mul (.int a) (.int b) Q = (mulOk a b ∧ Q (.int (a * b)) st) := rfl
theorem v_fdiv : binQ st .fdiv (.int a) (.int b) Q = ((0 < b ∧ b < 1073741824) ∧ Q (.int (a / b)) st) := propext ⟨fun h => ⟨⟨h.1, h.2.1⟩, h.2.2⟩, fun h => ⟨h.1.1, h.1.2, h.2⟩⟩
theorem v_mod : binQ st .mod (.int a) (.int b) Q = (0 < b ∧ Q (.int (a % b)) st) := rfl
theorem v_pow : binQ st .pow (.int a) (.int b) Q = ((0 ≤ b ∧ b ≤ 1000000 ∧ a.natAbs < 2 ^ 64) ∧ Q (.int (a ^ b.toNat)) st) := propext ⟨fun h => ⟨⟨h.1, h.2.1, h.2.2.1⟩, h.2.2.2⟩, fun h => ⟨h.1.1, h.1.2.1, h.1.2.2, h.2⟩⟩
theorem v_sadd {x y : List Nat} : binQ st .add (.str x) (.str y) Q = (x.length + y.length ≤ line ∧ Q (.str (x ++ y)) st) := rfl
theorem v_tadd {x y : List D} : binQ st .add (.tup x) (.tup y) Q = (x.length + y.length ≤ line ∧ Q (.tup (x ++ y)) st) := rfl
theorem v_ladd {h g : Nat} : binQ st .add (.ref h) (.ref g) Q = lstQ st[h]? (lz (fun a => lstQ st[g]? (lz (fun b => a.length + b.length ≤ line ∧ Q (.ref st.length) (st ++ [.lst (a ++ b)])) .mk)) .mk) := by
  unfold binQ
  dsimp only
  cases st[h]? with
  | none => rfl
  | some o =>
    cases o with
    | lst a =>
      show _ = lstQ st[g]? _
      cases st[g]? with
      | none => rfl
      | some o => cases o <;> rfl
    | _ => rfl
theorem v_lmul {h : Nat} {k : Int} : binQ st .mul (.ref h) (.int k) Q = lstQ st[h]? (lz (fun a => (-(2 ^ 63) ≤ k ∧ k < 2 ^ 63 ∧ a.length * k.toNat ≤ line) ∧ Q (.ref st.length) (st ++ [.lst (List.replicate k.toNat a).flatten])) .mk) := by
  unfold binQ
  dsimp only
  cases st[h]? with
  | none => rfl
  | some o =>
    cases o with
    | lst a => exact propext ⟨fun h => ⟨⟨h.1, h.2.1, h.2.2.1⟩, h.2.2.2⟩, fun h => ⟨h.1.1, h.1.2.1, h.1.2.2, h.2⟩⟩
    | _ => rfl
theorem v_int : prQ .int [.int i] st Q = Q (.int i) st := rfl
theorem v_intb {k : Bool} : prQ .int [.bl k] st Q = Q (.int (if k then 1 else 0)) st := rfl
theorem v_abs : prQ .abs [.int i] st Q = Q (.int (if i < 0 then -i else i)) st := rfl
theorem v_max2 : prQ .max2 [.int a, .int b] st Q = Q (.int (if b > a then b else a)) st := rfl
theorem v_min2 : prQ .min2 [.int a, .int b] st Q = Q (.int (if b < a then b else a)) st := rfl
theorem v_stri : prQ .str [.int i] st Q = (i.natAbs.log2 < 1920 ∧ Q (.str (decI i)) st) := rfl
theorem v_lens {x : List Nat} : prQ .len [.str x] st Q = (x.length ≤ line ∧ Q (.int x.length) st) := rfl
theorem v_lent {x : List D} : prQ .len [.tup x] st Q = Q (.int x.length) st := rfl
theorem v_lenr {h : Nat} : prQ .len [.ref h] st Q = sqQ st[h]? (lz (fun x => Q (.int x.length) st) .mk) := by
  unfold prQ
  dsimp only
  cases st[h]? with
  | none => rfl
  | some o => cases o <;> rfl
theorem v_tupt {x : List D} : prQ .tuple [.tup x] st Q = Q (.tup x) st := rfl
theorem v_tupr {h : Nat} : prQ .tuple [.ref h] st Q = sqQ st[h]? (lz (fun x => Q (.tup x) st) .mk) := by
  unfold prQ
  dsimp only
  cases st[h]? with
  | none => rfl
  | some o => cases o <;> rfl
theorem v_lstt {x : List D} : prQ .list [.tup x] st Q = Q (.ref st.length) (st ++ [.lst x]) := rfl
theorem v_lstr {h : Nat} : prQ .list [.ref h] st Q = sqQ st[h]? (lz (fun x => Q (.ref st.length) (st ++ [.lst x])) .mk) := by
  unfold prQ
  dsimp only
  cases st[h]? with
  | none => rfl
  | some o => cases o <;> rfl
theorem v_any {h : Nat} : prQ .any [.ref h] st Q = lstQ st[h]? (lz (fun x => ∃ bs : List Bool, x = bs.map D.bl ∧ Q (.bl (bs.any id)) st) .mk) := by
  unfold prQ
  dsimp only
  cases st[h]? with
  | none => rfl
  | some o => cases o <;> rfl
theorem v_all {h : Nat} : prQ .all [.ref h] st Q = lstQ st[h]? (lz (fun x => ∃ bs : List Bool, x = bs.map D.bl ∧ Q (.bl (bs.all id)) st) .mk) := by
  unfold prQ
  dsimp only
  cases st[h]? with
  | none => rfl
  | some o => cases o <;> rfl
theorem v_ixt {x : List D} : idxQ T st (.tup x) (.int i) Q = getIx x i (lz (fun c => Q c st) .mk) := rfl
theorem v_ixr {h : Nat} : idxQ T st (.ref h) (.int i) Q = sqQ st[h]? (lz (fun x => getIx x i (lz (fun c => Q c st) .mk)) .mk) := by
  unfold idxQ
  dsimp only
  cases st[h]? with
  | none => rfl
  | some o => cases o <;> first | rfl | exact propext ⟨fun ⟨j, e, h⟩ => by cases e; exact h, fun h => ⟨i, rfl, h⟩⟩
theorem v_seti {h : Nat} {v : D} {R : Store → Prop} : setQ st (.ref h) (.int i) v R = lstQ st[h]? (lz (fun x => setIx x i v (lz (fun y => R (st.set h (.lst y))) .mk)) .mk) := by
  unfold setQ
  dsimp only
  cases st[h]? with
  | none => rfl
  | some o =>
    cases o with
    | lst xs =>
      refine propext ⟨fun ⟨k, j, e, e2, q⟩ => ?_, fun q => ?_⟩
      · cases e
        show setIx _ _ _ _
        rw [setIx_of e2]
        exact q
      · have q : setIx xs i v _ := q
        unfold setIx at q
        cases e : ixOf xs.length i with
        | none => rw [e] at q; exact q.elim
        | some j => rw [e] at q; exact ⟨i, j, rfl, e, q⟩
    | _ => rfl
theorem v_pts {R : Option Int → Prop} : partQ (.int i) R = R (some i) := rfl
theorem v_ptn {R : Option Int → Prop} : partQ .non R = R none := rfl
theorem v_sls {z : List Nat} {lo hi : Option Int} : sliQ st (.str z) lo hi Q = (z.length ≤ line ∧ Q (.str (cutL z lo hi)) st) := rfl
theorem v_slt {z : List D} {lo hi : Option Int} : sliQ st (.tup z) lo hi Q = Q (.tup (cutL z lo hi)) st := rfl
theorem v_slr {h : Nat} {lo hi : Option Int} : sliQ st (.ref h) lo hi Q = sqQ st[h]? (lz (fun x => Q (.ref st.length) (st ++ [.lst (cutL x lo hi)])) .mk) := by
  unfold sliQ
  dsimp only
  cases st[h]? with
  | none => rfl
  | some o => cases o <;> rfl
theorem v_fld {h f : Nat} : fldQ st (.ref h) f Q = insQ st[h]? (lz (fun _ fs => optQ (fs.lookup f) (lz (fun d => Q d st) .mk)) .mk) := by
  unfold fldQ
  dsimp only
  cases st[h]? with
  | none => rfl
  | some o =>
    cases o with
    | ins c fs =>
      show _ = optQ (fs.lookup f) _
      dsimp only
      cases fs.lookup f <;> rfl
    | _ => rfl
theorem v_setf {h f : Nat} {v : D} {R : Store → Prop} : setfQ st (.ref h) f v R = insQ st[h]? (lz (fun c fs => fs.length < 1000 ∧ R (st.set h (.ins c (putF f v fs)))) .mk) := by
  unfold setfQ
  dsimp only
  cases st[h]? with
  | none => rfl
  | some o => cases o <;> rfl
theorem v_okl {m : Me} {h : Nat} : meOk m st (.ref h) = (match st[h]? with
    | some (.lst _) => meT m = .list
    | some (.dic _) => meT m = .dict
    | _ => False) := rfl
theorem v_oks {m : Me} {x : List Nat} : meOk m st (.str x) = (meT m = .str) := rfl
theorem v_app {h : Nat} {d : D} : meQ .append (.ref h) [d] st Q = lstQ st[h]? (lz (fun x => x.length < line ∧ Q .non (st.set h (.lst (x ++ [d])))) .mk) := by
  unfold meQ
  dsimp only
  cases st[h]? with
  | none => rfl
  | some o => cases o <;> rfl
theorem v_pop {h : Nat} : meQ .pop (.ref h) [] st Q = lstQ st[h]? (lz (fun xs => optQ xs[xs.length - 1]? (lz (fun d => Q d (st.set h (.lst xs.dropLast))) .mk)) .mk) := by
  unfold meQ
  dsimp only
  cases st[h]? with
  | none => rfl
  | some o =>
    cases o with
    | lst xs =>
      show _ = optQ xs[xs.length - 1]? _
      cases e : xs[xs.length - 1]? with
      | none => exact propext ⟨fun ⟨d, h, _⟩ => (by rw [e] at h; cases h), fun h => h.elim⟩
      | some d => exact propext ⟨fun ⟨d', h, q⟩ => (by rw [e] at h; cases h; exact q), fun h => ⟨d, e, h⟩⟩
    | _ => rfl
end
section
variable {Q : Bool → Prop} {a b : Int} {x y : List Nat} {c d : Bool}
theorem v_lt : cmpQ T st .lt (.int a) (.int b) Q = Q (decide (a < b)) := rfl
theorem v_le : cmpQ T st .le (.int a) (.int b) Q = Q (decide (a ≤ b)) := rfl
theorem v_gt : cmpQ T st .gt (.int a) (.int b) Q = Q (decide (b < a)) := rfl
theorem v_ge : cmpQ T st .ge (.int a) (.int b) Q = Q (decide (b ≤ a)) := rfl
theorem v_eq {x y : D} : cmpQ T st .eq x y Q = eqQ st x y Q := rfl
theorem v_ne {x y : D} : cmpQ T st .ne x y Q = eqQ st x y (lz (fun b => Q (!b)) .mk) := rfl
theorem v_in {x y : D} : cmpQ T st .inn x y Q = inQ T st x y Q := rfl
theorem v_ni {x y : D} : cmpQ T st .nin x y Q = inQ T st x y (lz (fun b => Q (!b)) .mk) := rfl
theorem v_eqii : eqQ st (.int a) (.int b) Q = Q (decide (a = b)) := rfl
theorem v_eqss : eqQ st (.str x) (.str y) Q = Q (decide (x = y)) := rfl
theorem v_eqbb : eqQ st (.bl c) (.bl d) Q = Q (decide (c = d)) := rfl
theorem v_eqsi : eqQ st (.str x) (.int b) Q = Q false := rfl
theorem v_eqis : eqQ st (.int a) (.str y) Q = Q false := rfl
theorem v_eqni : eqQ st .non (.int b) Q = Q false := rfl
theorem v_eqin : eqQ st (.int a) .non Q = Q false := rfl
theorem v_eqns : eqQ st .non (.str y) Q = Q false := rfl
theorem v_eqsn : eqQ st (.str x) .non Q = Q false := rfl
theorem v_trn : truQ st .non Q = Q false := rfl
theorem v_trb : truQ st (.bl c) Q = Q c := rfl
theorem v_tri : truQ st (.int a) Q = Q (a != 0) := rfl
theorem v_trt {x : List D} : truQ st (.tup x) Q = Q (!x.isEmpty) := rfl
theorem v_trr {h : Nat} : truQ st (.ref h) Q = lstQ st[h]? (lz (fun ds => Q (!ds.isEmpty)) .mk) := by
  unfold truQ
  dsimp only
  cases st[h]? with
  | none => rfl
  | some o => cases o <;> rfl
theorem v_trs : truQ st (.str x) Q = (x.length ≤ line ∧ Q (!x.isEmpty)) := rfl
theorem v_fms {Q : List Nat → Prop} : fmtQ (.str x) Q = (x.length ≤ line ∧ Q x) := rfl
theorem v_fmi {Q : List Nat → Prop} : fmtQ (.int a) Q = (a.natAbs.log2 < 1920 ∧ Q (decI a)) := rfl
theorem v_inp {ds : List D} {x : D} : inQ T st x (.tup ds) Q = (flatD x = true ∧ ds.all flatD = true ∧ Q (inD x ds)) := by cases x <;> rfl
theorem v_inl {h : Nat} {x : D} : inQ T st x (.ref h) Q = lstQ st[h]? (lz (fun ds => flatD x = true ∧ ds.all flatD = true ∧ Q (inD x ds)) .mk) := by
  cases x <;> (unfold inQ; dsimp only; cases st[h]? with
    | none => rfl
    | some o => cases o <;> rfl)
theorem v_ins : inQ T st (.str x) (.str y) Q = Q (!(Builtin.Str.occurrences ⟨y.toArray⟩ ⟨x.toArray⟩ 0 y.length 1).isEmpty) := rfl
section
variable {ts : List Ty} {F : Bool → Prop}
theorem t_n : isiQ T st .non ts F = F (ts.any fun t => isTy T none t) := propext ⟨fun h => h.2, fun h => ⟨rfl, h⟩⟩
theorem t_b : isiQ T st (.bl c) ts F = F (ts.any fun t => isTy T (some .bool) t) := propext ⟨fun h => h.2, fun h => ⟨rfl, h⟩⟩
theorem t_i : isiQ T st (.int a) ts F = F (ts.any fun t => isTy T (some .int) t) := propext ⟨fun h => h.2, fun h => ⟨rfl, h⟩⟩
theorem t_s : isiQ T st (.str x) ts F = F (ts.any fun t => isTy T (some .str) t) := propext ⟨fun h => h.2, fun h => ⟨rfl, h⟩⟩
theorem t_t {x : List D} : isiQ T st (.tup x) ts F = F (ts.any fun t => isTy T (some .tuple) t) := propext ⟨fun h => h.2, fun h => ⟨rfl, h⟩⟩
def tyO (o : Option O) : Option Ty := match o with
  | some (.lst _) => some .list
  | some (.fro _) => some .list
  | some (.dic _) => some .dict
  | some (.ins c _) => some (.own c)
  | none => none
theorem t_r {h : Nat} : isiQ T st (.ref h) ts F = optQ (tyO st[h]?) (lz (fun y => F (ts.any fun t => isTy T (some y) t)) .mk) := by
  unfold isiQ hasTy tyOf tyO
  dsimp only
  cases st[h]? with
  | none => exact propext ⟨fun h => Bool.noConfusion h.1, fun h => h.elim⟩
  | some o => cases o <;> exact propext ⟨fun h => h.2, fun h => ⟨rfl, h⟩⟩
theorem tyO_1 {x} : tyO (some (.lst x)) = some .list := rfl
theorem tyO_2 {x} : tyO (some (.fro x)) = some .list := rfl
theorem tyO_3 {x} : tyO (some (.dic x)) = some .dict := rfl
theorem tyO_4 {c x} : tyO (some (.ins c x)) = some (.own c) := rfl
theorem y_n {t} : isTy T none t = false := rfl
theorem y_b {t} : isTy T (some .bool) t = (decide (t = .bool) || decide (t = .int)) := rfl
theorem y_i {t} : isTy T (some .int) t = decide (Ty.int = t) := by cases t <;> rfl
theorem y_s {t} : isTy T (some .str) t = decide (Ty.str = t) := by cases t <;> rfl
theorem y_t {t} : isTy T (some .tuple) t = decide (Ty.tuple = t) := by cases t <;> rfl
theorem y_l {t} : isTy T (some .list) t = decide (Ty.list = t) := by cases t <;> rfl
theorem y_d {t} : isTy T (some .dict) t = decide (Ty.dict = t) := by cases t <;> rfl
theorem y_o {c d} : isTy T (some (.own c)) (.own d) = T.sub c d := rfl
theorem y_o1 {c} : isTy T (some (.own c)) .int = false := rfl
theorem y_o2 {c} : isTy T (some (.own c)) .str = false := rfl
theorem y_o3 {c} : isTy T (some (.own c)) .bool = false := rfl
theorem y_o4 {c} : isTy T (some (.own c)) .tuple = false := rfl
theorem y_o5 {c} : isTy T (some (.own c)) .list = false := rfl
theorem y_o6 {c} : isTy T (some (.own c)) .dict = false := rfl
end
end
section
variable {R : J → Prop}
theorem w_t {ds : List D} : walkQ st (.tup ds) R = R (.seq ds) := rfl
theorem w_s {z : List Nat} : walkQ st (.str z) R = R (.seq (z.map fun c => .str [c])) := rfl
theorem w_r {h : Nat} : walkQ st (.ref h) R = sqQ st[h]? (lz (fun _ => R (.lst h)) .mk) := by
  unfold walkQ
  dsimp only
  cases st[h]? with
  | none => rfl
  | some o => cases o <;> rfl
theorem w_e {h : Nat} : enmQ st (.ref h) R = sqQ st[h]? (lz (fun _ => R (.enm h)) .mk) := by
  unfold enmQ
  dsimp only
  cases st[h]? with
  | none => rfl
  | some o => cases o <;> rfl
theorem w_zt {a b : List D} : zipQ st (.tup a) (.tup b) R = R (.seq (List.zipWith (fun u v => .tup [u, v]) a b)) := rfl
end
end
section
variable {T : Tab} {C : Calls}
theorem for_seq {v : Nat} {body : Env → Store → K → Prop} {k : K} (P : List D → Env → Store → Prop)
    (turn : ∀ (d : D) (r : List D) (env : Env) (st : Store) (N : Env → Store → Prop), P (d :: r) env st → (∀ e s, P r e s → N e s) → body (env.set v (some d)) st (kl N k .mk))
    (done : ∀ env st, P [] env st → k.nx env st) (ds : List D) : ∀ (r : List D) (i : Nat) (env : Env) (st : Store), ds.drop i = r → P r env st → forN (.seq ds) (.nm v) body k (r.length + 1) i env st
  | [], i, env, st, e, p => by
    unfold forN
    have : (J.seq ds).at i st = some none := by
      show some ds[i]? = _
      rw [List.getElem?_eq_none (by have := congrArg List.length e; simp at this; omega)]
    rw [this]
    exact done env st p
  | d :: r, i, env, st, e, p => by
    unfold forN
    have : (J.seq ds).at i st = some (some d) := by
      show some ds[i]? = _
      have h : (ds.drop i)[0]? = some d := by rw [e]; rfl
      rw [List.getElem?_drop] at h
      rw [← h]; rfl
    rw [this]
    have e2 : ds.drop (i + 1) = r := by rw [← List.drop_drop, e]; rfl
    exact turn d r env st (forN (.seq ds) (.nm v) body k (r.length + 1) (i + 1)) p fun e' s' p' => for_seq P turn done ds r (i + 1) e' s' e2 p'
theorem for_s {v : Nat} {body : Env → Store → K → Prop} {k : K} {ds : List D} {env : Env} {st : Store} (P : List D → Env → Store → Prop) (start : P ds env st)
    (turn : ∀ (d : D) (r : List D) (env : Env) (st : Store) (N : Env → Store → Prop), P (d :: r) env st → (∀ e s, P r e s → N e s) → body (env.set v (some d)) st (kl N k .mk))
    (done : ∀ env st, P [] env st → k.nx env st) : ∃ n, forN (.seq ds) (.nm v) body k n 0 env st :=
  ⟨_, for_seq P turn done ds ds 0 env st rfl start⟩
theorem for_i {j : J} {tg : Tg} {body : Env → Store → K → Prop} {k : K} {env : Env} {st : Store} (n : Nat) (Iv : Nat → Env → Store → Prop) (start : Iv 0 env st)
    (turn : ∀ (i : Nat) (env : Env) (st : Store) (N : Env → Store → Prop), i < n → Iv i env st → (∀ e s, Iv (i + 1) e s → N e s) → optQ (j.at i st) (lz (fun o => optQ o (lz (fun d => bindQ tg d env (lz (fun env' => body env' st (kl N k .mk)) .mk)) .mk)) .mk))
    (done : ∀ (env : Env) (st : Store), Iv n env st → j.at n st = some none ∧ k.nx env st) : ∃ m, forN j tg body k m 0 env st := by
  refine ⟨n + 1, for_j n Iv (fun i env st N hi iv hN => ?_) done n 0 env st (by omega) start⟩
  have h := turn i env st N hi iv hN
  cases e : j.at i st with
  | none => rw [e] at h; exact h.elim
  | some o =>
    rw [e] at h
    have h : optQ o _ := h
    cases o with
    | none => exact h.elim
    | some d =>
      have h : bindQ tg d env _ := h
      unfold bindQ at h
      cases e2 : bindT tg d env with
      | none => rw [e2] at h; exact h.elim
      | some env' =>
        rw [e2] at h
        exact ⟨d, env', rfl, e2, h⟩
theorem at_s {i : Nat} {st : Store} {ds : List D} : (J.seq ds).at i st = some ds[i]? := rfl
theorem cmp_seq {v : Nat} {tests : Env → Store → (Bool → Store → Prop) → Prop} {elt : Env → Store → QE → Prop} {h : Nat} {Q : QE} {env : Env} (P : List D → List D → Store → Prop)
    (turn : ∀ (d : D) (r acc : List D) (st : Store) (N : List D → Store → Prop), P (d :: r) acc st → (∀ acc' s, P r acc' s → N acc' s) →
      tests (env.set v (some d)) st (lz (fun b s1 => ifL b (lz (fun _ => elt (env.set v (some d)) s1 (lz (fun y s2 => lstQ s2[h]? (lz (fun acc => acc.length < line ∧ N (acc ++ [y]) (s2.set h (.lst (acc ++ [y])))) .mk)) .mk)) .mk) (lz (fun _ => N acc s1) .mk)) .mk))
    (done : ∀ acc st, P [] acc st → Q (.ref h) st) (ds : List D) : ∀ (r acc : List D) (i : Nat) (st : Store), ds.drop i = r → P r acc st → cmpN (.seq ds) (.nm v) tests elt h Q (r.length + 1) i env st
  | [], acc, i, st, e, p => by
    unfold cmpN
    have : (J.seq ds).at i st = some none := by
      show some ds[i]? = _
      rw [List.getElem?_eq_none (by have := congrArg List.length e; simp at this; omega)]
    rw [this]
    exact done acc st p
  | d :: r, acc, i, st, e, p => by
    unfold cmpN
    have : (J.seq ds).at i st = some (some d) := by
      show some ds[i]? = _
      have h : (ds.drop i)[0]? = some d := by rw [e]; rfl
      rw [List.getElem?_drop] at h
      rw [← h]; rfl
    rw [this]
    have e2 : ds.drop (i + 1) = r := by rw [← List.drop_drop, e]; rfl
    have q := turn d r acc st (fun acc' s => cmpN (.seq ds) (.nm v) tests elt h Q (r.length + 1) (i + 1) env s) p fun acc' s' p' => cmp_seq P turn done ds r acc' (i + 1) s' e2 p'
    have c : ∀ s2 : Store, ∀ y : D, (match s2[h]? with
          | some (.lst acc) => acc.length < line ∧ cmpN (.seq ds) (.nm v) tests elt h Q (r.length + 1) (i + 1) env (s2.set h (.lst (acc ++ [y])))
          | _ => False) = lstQ s2[h]? (fun acc => acc.length < line ∧ cmpN (.seq ds) (.nm v) tests elt h Q (r.length + 1) (i + 1) env (s2.set h (.lst (acc ++ [y])))) := fun s2 y => by
      cases s2[h]? with
      | none => rfl
      | some o => cases o <;> rfl
    show tests (env.set v (some d)) st fun b st1 => if b = true then elt (env.set v (some d)) st1 fun y st2 => (match st2[h]? with
          | some (.lst acc) => acc.length < line ∧ cmpN (.seq ds) (.nm v) tests elt h Q (r.length + 1) (i + 1) env (st2.set h (.lst (acc ++ [y])))
          | _ => False) else cmpN (.seq ds) (.nm v) tests elt h Q (r.length + 1) (i + 1) env st1
    simp only [c]
    exact q
theorem cmp_s {v : Nat} {tests : Env → Store → (Bool → Store → Prop) → Prop} {elt : Env → Store → QE → Prop} {h : Nat} {Q : QE} {env : Env} {st : Store} {ds : List D} (P : List D → List D → Store → Prop) (start : P ds [] st)
    (turn : ∀ (d : D) (r acc : List D) (st : Store) (N : List D → Store → Prop), P (d :: r) acc st → (∀ acc' s, P r acc' s → N acc' s) →
      tests (env.set v (some d)) st (lz (fun b s1 => ifL b (lz (fun _ => elt (env.set v (some d)) s1 (lz (fun y s2 => lstQ s2[h]? (lz (fun acc => acc.length < line ∧ N (acc ++ [y]) (s2.set h (.lst (acc ++ [y])))) .mk)) .mk)) .mk) (lz (fun _ => N acc s1) .mk)) .mk))
    (done : ∀ acc st, P [] acc st → Q (.ref h) st) : ∃ n, cmpN (.seq ds) (.nm v) tests elt h Q n 0 env st :=
  ⟨_, cmp_seq P turn done ds ds [] 0 st rfl start⟩
theorem for_e {a b h : Nat} {ds : List D} {body : Env → Store → K → Prop} {k : K} {env : Env} {st : Store} (P : Nat → List D → Env → Store → Prop) (start : P 0 ds env st)
    (stay : ∀ i r env st, P i r env st → sqQ st[h]? fun x => x = ds)
    (turn : ∀ (i : Nat) (d : D) (r : List D) (env : Env) (st : Store) (N : Env → Store → Prop), ds.drop i = d :: r → P i (d :: r) env st → (∀ e s, P (i + 1) r e s → N e s) → body ((env.set a (some (.int i))).set b (some d)) st (kl N k .mk))
    (done : ∀ env st, P ds.length [] env st → k.nx env st) : ∃ n, forN (.enm h) (.tp [a, b]) body k n 0 env st := by
  have at_ : ∀ (i : Nat) (s : Store), (sqQ s[h]? fun x => x = ds) → (J.enm h).at i s = some (ds[i]?.map fun d => .tup [.int i, d]) := fun i s e => by
    unfold J.at
    dsimp only
    cases q : s[h]? with
    | none => rw [q] at e; exact e.elim
    | some o =>
      rw [q] at e
      cases o with
      | lst x => rw [show x = ds from e]
      | fro x => rw [show x = ds from e]
      | _ => exact e.elim
  have main : ∀ (r : List D) (i : Nat) (env : Env) (st : Store), ds.drop i = r → i ≤ ds.length → P i r env st → forN (.enm h) (.tp [a, b]) body k (r.length + 1) i env st := fun r => by
    induction r with
    | nil =>
      intro i env st e le p
      unfold forN
      have l : ds.length ≤ i := by have := congrArg List.length e; simp at this; omega
      rw [at_ i st (stay _ _ _ _ p), List.getElem?_eq_none l]
      rw [show i = ds.length by omega] at p
      exact done env st p
    | cons d r ih =>
      intro i env st e le p
      unfold forN
      have hd : ds[i]? = some d := by
        have h : (ds.drop i)[0]? = some d := by rw [e]; rfl
        rw [List.getElem?_drop] at h
        rw [← h]; rfl
      rw [at_ i st (stay _ _ _ _ p), hd]
      have e2 : ds.drop (i + 1) = r := by rw [← List.drop_drop, e]; rfl
      exact turn i d r env st _ e p fun e' s' p' => ih (i + 1) e' s' e2 (by have := (List.getElem?_eq_some_iff.mp hd).1; omega) p'
  exact ⟨_, main ds 0 env st rfl (Nat.zero_le _) start⟩
theorem for_l {v h : Nat} {ds : List D} {body : Env → Store → K → Prop} {k : K} {env : Env} {st : Store} (P : List D → Env → Store → Prop) (start : P ds env st)
    (stay : ∀ r env st, P r env st → sqQ st[h]? fun x => x = ds)
    (turn : ∀ (d : D) (r : List D) (env : Env) (st : Store) (N : Env → Store → Prop), P (d :: r) env st → (∀ e s, P r e s → N e s) → body (env.set v (some d)) st (kl N k .mk))
    (done : ∀ env st, P [] env st → k.nx env st) : ∃ n, forN (.lst h) (.nm v) body k n 0 env st := by
  have at_ : ∀ (i : Nat) (s : Store), (sqQ s[h]? fun x => x = ds) → (J.lst h).at i s = some ds[i]? := fun i s e => by
    unfold J.at
    dsimp only
    cases q : s[h]? with
    | none => rw [q] at e; exact e.elim
    | some o =>
      rw [q] at e
      cases o with
      | lst x => rw [show x = ds from e]
      | fro x => rw [show x = ds from e]
      | _ => exact e.elim
  have main : ∀ (r : List D) (i : Nat) (env : Env) (st : Store), ds.drop i = r → P r env st → forN (.lst h) (.nm v) body k (r.length + 1) i env st := fun r => by
    induction r with
    | nil =>
      intro i env st e p
      unfold forN
      have l : ds.length ≤ i := by have := congrArg List.length e; simp at this; omega
      rw [at_ i st (stay _ _ _ p), List.getElem?_eq_none l]
      exact done env st p
    | cons d r ih =>
      intro i env st e p
      unfold forN
      have hd : ds[i]? = some d := by
        have h : (ds.drop i)[0]? = some d := by rw [e]; rfl
        rw [List.getElem?_drop] at h
        rw [← h]; rfl
      rw [at_ i st (stay _ _ _ p), hd]
      have e2 : ds.drop (i + 1) = r := by rw [← List.drop_drop, e]; rfl
      exact turn d r env st _ p fun e' s' p' => ih (i + 1) e' s' e2 p'
  exact ⟨_, main ds 0 env st rfl start⟩
theorem cmp_l {v g : Nat} {ds : List D} {tests : Env → Store → (Bool → Store → Prop) → Prop} {elt : Env → Store → QE → Prop} {h : Nat} {Q : QE} {env : Env} {st : Store} (P : List D → List D → Store → Prop) (start : P ds [] st)
    (stay : ∀ r acc st, P r acc st → sqQ st[g]? fun x => x = ds)
    (turn : ∀ (d : D) (r acc : List D) (st : Store) (N : List D → Store → Prop), P (d :: r) acc st → (∀ acc' s, P r acc' s → N acc' s) →
      tests (env.set v (some d)) st (lz (fun b s1 => ifL b (lz (fun _ => elt (env.set v (some d)) s1 (lz (fun y s2 => lstQ s2[h]? (lz (fun acc => acc.length < line ∧ N (acc ++ [y]) (s2.set h (.lst (acc ++ [y])))) .mk)) .mk)) .mk) (lz (fun _ => N acc s1) .mk)) .mk))
    (done : ∀ acc st, P [] acc st → Q (.ref h) st) : ∃ n, cmpN (.lst g) (.nm v) tests elt h Q n 0 env st := by
  have at_ : ∀ (i : Nat) (s : Store), (sqQ s[g]? fun x => x = ds) → (J.lst g).at i s = some ds[i]? := fun i s e => by
    unfold J.at
    dsimp only
    cases q : s[g]? with
    | none => rw [q] at e; exact e.elim
    | some o =>
      rw [q] at e
      cases o with
      | lst x => rw [show x = ds from e]
      | fro x => rw [show x = ds from e]
      | _ => exact e.elim
  have main : ∀ (r acc : List D) (i : Nat) (st : Store), ds.drop i = r → P r acc st → cmpN (.lst g) (.nm v) tests elt h Q (r.length + 1) i env st := fun r => by
    induction r with
    | nil =>
      intro acc i st e p
      unfold cmpN
      have l : ds.length ≤ i := by have := congrArg List.length e; simp at this; omega
      rw [at_ i st (stay _ _ _ p), List.getElem?_eq_none l]
      exact done acc st p
    | cons d r ih =>
      intro acc i st e p
      unfold cmpN
      have hd : ds[i]? = some d := by
        have h : (ds.drop i)[0]? = some d := by rw [e]; rfl
        rw [List.getElem?_drop] at h
        rw [← h]; rfl
      rw [at_ i st (stay _ _ _ p), hd]
      have e2 : ds.drop (i + 1) = r := by rw [← List.drop_drop, e]; rfl
      have q := turn d r acc st (fun acc' s => cmpN (.lst g) (.nm v) tests elt h Q (r.length + 1) (i + 1) env s) p fun acc' s' p' => ih acc' (i + 1) s' e2 p'
      have c : ∀ s2 : Store, ∀ y : D, (match s2[h]? with
            | some (.lst acc) => acc.length < line ∧ cmpN (.lst g) (.nm v) tests elt h Q (r.length + 1) (i + 1) env (s2.set h (.lst (acc ++ [y])))
            | _ => False) = lstQ s2[h]? (fun acc => acc.length < line ∧ cmpN (.lst g) (.nm v) tests elt h Q (r.length + 1) (i + 1) env (s2.set h (.lst (acc ++ [y])))) := fun s2 y => by
        cases s2[h]? with
        | none => rfl
        | some o => cases o <;> rfl
      show tests (env.set v (some d)) st fun b st1 => if b = true then elt (env.set v (some d)) st1 fun y st2 => (match st2[h]? with
            | some (.lst acc) => acc.length < line ∧ cmpN (.lst g) (.nm v) tests elt h Q (r.length + 1) (i + 1) env (st2.set h (.lst (acc ++ [y])))
            | _ => False) else cmpN (.lst g) (.nm v) tests elt h Q (r.length + 1) (i + 1) env st1
      simp only [c]
      exact q
  exact ⟨_, main ds [] 0 st rfl start⟩
end
end Y
set_option linter.all false
set_option maxHeartbeats 4000000
set_option maxRecDepth 100000
namespace Y
open PySem
mutual
def clean : Nat → D → Bool
  | _, .non => true
  | _, .int _ => true
  | _, .str x => x.all fun c => decide (c < 1114112)
  | 0, .tup _ => false
  | n + 1, .tup ds => cleans n ds
  | _, _ => false
def cleans : Nat → List D → Bool
  | _, [] => true
  | n, d :: ds => clean n d && cleans n ds
end
mutual
def pdO : D → PyData
  | .non => .none
  | .int i => .int i
  | .str x => .str ⟨x.toArray⟩
  | .tup ds => .tuple (pdOs ds)
  | _ => .none
def pdOs : List D → List PyData
  | [] => []
  | d :: ds => pdO d :: pdOs ds
end
mutual
theorem toP_clean {st : Store} : ∀ (n m : Nat) (d : D), n ≤ m → clean n d = true → toP m st d = some (pdO d)
  | n, m, .non, _, _ => by cases m <;> rfl
  | n, m, .int i, _, _ => by cases m <;> rfl
  | n, m, .str x, _, h => by
    have h : (x.all fun c => decide (c < 1114112)) = true := by cases n <;> exact h
    cases m <;> (unfold toP; rw [if_pos h]; rfl)
  | 0, _, .tup ds, _, h => by cases h
  | n + 1, 0, .tup ds, l, h => by omega
  | n + 1, m + 1, .tup ds, l, h => by
    have h : cleans n ds = true := h
    show (ds.mapM (toP m st)).map PyData.tuple = _
    rw [toPs_clean n m ds (by omega) h]
    rfl
  | n, _, .bl b, _, h => by cases n <;> cases h
  | n, _, .ref b, _, h => by cases n <;> cases h
  | n, _, .kon b, _, h => by cases n <;> cases h
theorem toPs_clean {st : Store} : ∀ (n m : Nat) (ds : List D), n ≤ m → cleans n ds = true → ds.mapM (toP m st) = some (pdOs ds)
  | n, m, [], _, _ => by simp [pdOs]
  | n, m, d :: ds, l, h => by
    have h : (clean n d && cleans n ds) = true := h
    rw [Bool.and_eq_true] at h
    rw [List.mapM_cons, toP_clean n m d l h.1, toPs_clean n m ds l h.2]
    rfl
end
mutual
theorem eqv_clean : ∀ (n m : Nat) (x y : D), clean n x = true → clean m y = true → PyData.eqv (pdO x) (pdO y) = decide (x = y)
  | n, m, .bl b, _, h, _ => by cases n <;> cases h
  | n, m, .ref b, _, h, _ => by cases n <;> cases h
  | n, m, .kon b, _, h, _ => by cases n <;> cases h
  | n, m, .non, y, _, hy => by cases y <;> first | (simp [pdO, PyData.eqv]; done) | (cases m <;> cases hy)
  | n, m, .int i, y, _, hy => by
    cases y with
    | int j => by_cases e : i = j <;> simp [pdO, PyData.eqv, e]
    | _ => first | (simp [pdO, PyData.eqv]; done) | (cases m <;> cases hy)
  | n, m, .str x, y, _, hy => by
    cases y with
    | str z => by_cases e : x = z <;> simp [pdO, PyData.eqv, e]
    | _ => first | (simp [pdO, PyData.eqv]; done) | (cases m <;> cases hy)
  | 0, m, .tup ds, _, h, _ => by cases h
  | n + 1, m, .tup ds, y, h, hy => by
    cases y with
    | tup es =>
      cases m with
      | zero => cases hy
      | succ m =>
        have := eqvs_clean n m ds es h hy
        simp only [pdO, PyData.eqv, this, D.tup.injEq]
    | _ => first | (simp [pdO, PyData.eqv]; done) | (cases m <;> cases hy)
theorem eqvs_clean : ∀ (n m : Nat) (xs ys : List D), cleans n xs = true → cleans m ys = true → PyData.eqvAll (pdOs xs) (pdOs ys) = decide (xs = ys)
  | n, m, [], [], _, _ => by simp [pdOs, PyData.eqvAll]
  | n, m, [], y :: ys, _, _ => by simp [pdOs, PyData.eqvAll]
  | n, m, x :: xs, [], _, _ => by simp [pdOs, PyData.eqvAll]
  | n, m, x :: xs, y :: ys, h, hy => by
    have h : (clean n x && cleans n xs) = true := h
    have hy : (clean m y && cleans m ys) = true := hy
    rw [Bool.and_eq_true] at h hy
    have a := eqv_clean n m x y h.1 hy.1
    have b := eqvs_clean n m xs ys h.2 hy.2
    simp only [pdOs, PyData.eqvAll, a, b]
    by_cases e : x = y <;> by_cases e2 : xs = ys <;> simp [e, e2]
end
theorem eqQ_clean {st : Store} {x y : D} {n m : Nat} {Q : Bool → Prop} (hx : clean n x = true) (hy : clean m y = true) (ln : n ≤ 60) (lm : m ≤ 60) (h : Q (decide (x = y))) : eqQ st x y Q := by
  have ex : ∃ d e, toP 60 st x = some d ∧ toP 60 st y = some e ∧ Q (PyData.eqv d e) := ⟨_, _, toP_clean n 60 x ln hx, toP_clean m 60 y lm hy, by rw [eqv_clean n m x y hx hy]; exact h⟩
  have i1 : ∀ a b : Int, decide (D.int a = D.int b) = decide (a = b) := fun a b => by simp
  have i2 : ∀ a b : List Nat, decide (D.str a = D.str b) = decide (a = b) := fun a b => by simp
  cases x <;> cases y <;> first
    | exact ex
    | (rw [i1] at h; exact h)
    | (rw [i2] at h; exact h)
    | (simp only [reduceCtorEq, decide_false] at h; exact h)
    | (simp only [decide_true] at h; exact h)
    | (cases n <;> cases hx)
theorem eqQ_lists {st : Store} {a b : Nat} {xs ys : List D} {n m : Nat} {Q : Bool → Prop} (ea : st[a]? = some (.lst xs)) (eb : st[b]? = some (.lst ys)) (hx : cleans n xs = true) (hy : cleans m ys = true) (ln : n ≤ 59) (lm : m ≤ 59) (h : Q (decide (xs = ys))) : eqQ st (.ref a) (.ref b) Q := by
  refine ⟨.list (pdOs xs), .list (pdOs ys), ?_, ?_, ?_⟩
  · unfold toP
    rw [ea]
    dsimp only
    rw [toPs_clean n 59 xs ln hx]
    rfl
  · unfold toP
    rw [eb]
    dsimp only
    rw [toPs_clean m 59 ys lm hy]
    rfl
  · simp only [PyData.eqv, eqvs_clean n m xs ys hx hy]
    exact h
end Y
set_option linter.all false
set_option maxHeartbeats 4000000
set_option maxRecDepth 100000
namespace Y
open PySem
structure Keep (a b : Store) : Prop where
  len : a.length ≤ b.length
  same : ∀ h, h < a.length → b[h]? = a[h]?
theorem Keep.refl (a : Store) : Keep a a := ⟨Nat.le_refl _, fun _ _ => rfl⟩
theorem Keep.trans {a b c : Store} (x : Keep a b) (y : Keep b c) : Keep a c := ⟨Nat.le_trans x.len y.len, fun h l => (y.same h (Nat.lt_of_lt_of_le l x.len)).trans (x.same h l)⟩
theorem Keep.app {a b : Store} (x : Keep a b) (c : Store) : Keep a (b ++ c) := ⟨by rw [List.length_append]; exact Nat.le_trans x.len (Nat.le_add_right _ _), fun h l => by rw [List.getElem?_append_left (Nat.lt_of_lt_of_le l x.len)]; exact x.same h l⟩
theorem Keep.new (a c : Store) : Keep a (a ++ c) := (Keep.refl a).app c
theorem Keep.set {a b : Store} (x : Keep a b) {h : Nat} (o : O) (l : a.length ≤ h) : Keep a (b.set h o) := ⟨by rw [List.length_set]; exact x.len, fun g m => by rw [List.getElem?_set_ne (by omega)]; exact x.same g m⟩
theorem Keep.get {a b : Store} (x : Keep a b) {h : Nat} {o : O} (e : a[h]? = some o) : b[h]? = some o := (x.same h (List.getElem?_eq_some_iff.mp e).1).trans e
theorem lt_of_get {a : Store} {h : Nat} {o : O} (e : a[h]? = some o) : h < a.length := (List.getElem?_eq_some_iff.mp e).1
theorem get_app {a : Store} {h : Nat} {o : O} (c : Store) (e : a[h]? = some o) : (a ++ c)[h]? = some o := (Keep.new a c).get e
theorem get_snoc (a : Store) (o : O) : (a ++ [o])[a.length]? = some o := List.getElem?_concat_length
theorem get_snoc2 (a c : Store) (o : O) : (a ++ [o] ++ c)[a.length]? = some o := get_app c (get_snoc a o)
theorem get_set {a : Store} {h g : Nat} {o o' : O} (e : a[h]? = some o) (ne : g ≠ h) : (a.set g o')[h]? = some o := by rw [List.getElem?_set_ne ne]; exact e
theorem set_get {a : Store} {h : Nat} {o o' : O} (e : a[h]? = some o) : (a.set h o')[h]? = some o' := List.getElem?_set_self (lt_of_get e)
def rg (i m : Nat) : List D := (List.range' i m).map fun (j : Nat) => D.int (j : Int)
theorem rngD_rg (n : Nat) : rngD 0 n = rg 0 n := by
  unfold rngD rg
  rw [List.range_eq_range']
  refine List.map_congr_left fun j _ => ?_
  rw [Int.zero_add]
theorem rg_succ (i m : Nat) : rg i (m + 1) = .int i :: rg (i + 1) m := by
  unfold rg
  rw [List.range'_succ]
  rfl
theorem rg_zero (i : Nat) : rg i 0 = [] := rfl
theorem rg_len (i m : Nat) : (rg i m).length = m := by simp [rg]
theorem getIx_n {xs : List D} {i : Nat} {F : D → Prop} (h : i < xs.length) : getIx xs (i : Int) F = F xs[i] := getIx_of (j := i) (by rw [ix_pos (by omega) (by omega)]; rfl) (List.getElem?_eq_getElem h)
theorem sum_le {ys : List (List Nat)} {m : Nat} (h : ∀ y ∈ ys, y.length ≤ m) : (ys.map List.length).sum ≤ m * ys.length := by
  induction ys with
  | nil => simp
  | cons y ys ih =>
    have h1 := h y List.mem_cons_self
    have h2 := ih fun z hz => h z (List.mem_cons_of_mem _ hz)
    rw [List.map_cons, List.sum_cons, List.length_cons, Nat.mul_succ]
    omega
theorem seq_l {st : Store} {h : Nat} {xs : List D} (e : st[h]? = some (.lst xs)) : seqOf st (.ref h) = some xs := by
  unfold seqOf
  dsimp only
  rw [e]
theorem join_snoc {α : Type} {p : α} {a b c : List α} (e : a = b ++ p :: c) : a = (b ++ [p]) ++ c := by rw [e]; simp
theorem le_line {a : Nat} (h : a ≤ 1000000) : a ≤ line := Nat.le_trans h (by decide)
theorem lt_line {a : Nat} (h : a ≤ 1000000) : a < line := Nat.lt_of_le_of_lt h (by decide)
end Y
set_option Elab.async false
set_option linter.all false
set_option maxRecDepth 100000
set_option maxHeartbeats 0
namespace Y.K_k17
open PySem PySem.Spec PyProof.Rows L2
def top (i : Nat) : Stmt := PySem.Challenge.pw_pastless_k17_rows_weavings_states_as_tex.main.body.getD i (.Pass ⟨0, 0, 0, 0⟩)
def inn (i j : Nat) : Stmt := match top i with
  | .ClassDef _ _ _ b _ _ _ _ _ _ _ => b.getD j (.Pass ⟨0, 0, 0, 0⟩)
  | _ => .Pass ⟨0, 0, 0, 0⟩
def b_is_integer : B := (.cons (.ret (.and (.isi (.var 0) [.int]) (.not (.isi (.var 0) [.bool])))) .nil)
def f_is_integer : Fd := ⟨⟨("is_integer", none), "is_integer", "is_integer", defArgs (top 8), defBody (top 8), defScope (top 8), [], []⟩, ["thing"], ["thing"], ⟨1, 1, b_is_integer⟩, []⟩
def b_is_name : B := (.cons (.ifS (.or (.not (.tv (.isi (.var 0) [.str]))) (.not (.chain .le .le (.con (.int 1)) (.pr .len (.cons (.var 0) .nil)) (.con (.int 8))))) (.cons (.ret (.con (.bl false))) .nil) .nil) (.cons (.forS (.nm 1) (.sq (.var 0)) (.cons (.ifS (.cmp .nin (.var 1) (.glo 0)) (.cons (.ret (.con (.bl false))) .nil) .nil) .nil)) (.cons (.ret (.con (.bl true))) .nil)))
def f_is_name : Fd := ⟨⟨("is_name", none), "is_name", "is_name", defArgs (top 9), defBody (top 9), defScope (top 9), [], []⟩, ["thing", "letter"], ["thing"], ⟨1, 2, b_is_name⟩, []⟩
def b_is_small : B := (.cons (.ret (.and (.call 0 (.cons (.var 0) .nil) []) (.chain .le .le (.con (.int 0)) (.var 0) (.var 1)))) .nil)
def f_is_small : Fd := ⟨⟨("is_small", none), "is_small", "is_small", defArgs (top 13), defBody (top 13), defScope (top 13), [], []⟩, ["thing", "most"], ["thing", "most"], ⟨2, 2, b_is_small⟩, []⟩
def b_is_call_form : B := (.cons (.ret (.and (.isi (.var 0) [.tuple]) (.and (.cmp .eq (.pr .len (.cons (.var 0) .nil)) (.con (.int 2))) (.and (.call 1 (.cons (.idx (.var 0) (.con (.int 0))) .nil) []) (.call 2 (.cons (.idx (.var 0) (.con (.int 1))) (.cons (.glo 1) .nil)) []))))) .nil)
def f_is_call_form : Fd := ⟨⟨("is_call_form", none), "is_call_form", "is_call_form", defArgs (top 14), defBody (top 14), defScope (top 14), [], []⟩, ["thing"], ["thing"], ⟨1, 1, b_is_call_form⟩, []⟩
def b_call_words : B := (.cons (.ret (.fstr (.cons (.idx (.var 0) (.con (.int 0))) (.cons (.con (.str [32])) (.cons (.idx (.var 0) (.con (.int 1))) .nil))))) .nil)
def f_call_words : Fd := ⟨⟨("call_words", none), "call_words", "call_words", defArgs (top 15), defBody (top 15), defScope (top 15), [], []⟩, ["call"], ["call"], ⟨1, 1, b_call_words⟩, []⟩
def b_call_of : B := (.cons (.ifS (.or (.cmp .ne (.pr .len (.cons (.var 0) .nil)) (.con (.int 2))) (.or (.not (.tv (.call 1 (.cons (.idx (.var 0) (.con (.int 0))) .nil) []))) (.cmp .nin (.idx (.var 0) (.con (.int 1))) (.glo 2)))) (.cons (.ret (.con .non)) .nil) .nil) (.cons (.ret (.tup (.cons (.idx (.var 0) (.con (.int 0))) (.cons (.pr .int (.cons (.idx (.var 0) (.con (.int 1))) .nil)) .nil)))) .nil))
def f_call_of : Fd := ⟨⟨("call_of", none), "call_of", "call_of", defArgs (top 16), defBody (top 16), defScope (top 16), [], []⟩, ["words"], ["words"], ⟨1, 1, b_call_of⟩, []⟩
def b_row_text : B := (.cons (.ifS (.not (.tv (.isi (.var 0) [.list]))) (.cons (.rais 2 (.cons (.neg (.con (.int 1))) .nil)) .nil) .nil) (.cons (.asg (.nm 1) (.lst .nil)) (.cons (.forS (.tp [2, 3]) (.enm (.var 0)) (.cons (.ifS (.not (.tv (.call 3 (.cons (.var 3) .nil) []))) (.cons (.rais 2 (.cons (.var 2) .nil)) .nil) .nil) (.cons (.exp (.me .append (.var 1) (.cons (.call 4 (.cons (.var 3) .nil) []) .nil))) .nil))) (.cons (.ret (.me .join (.con (.str [10])) (.cons (.var 1) .nil))) .nil))))
def f_row_text : Fd := ⟨⟨("row_text", none), "row_text", "row_text", defArgs (top 17), defBody (top 17), defScope (top 17), [], []⟩, ["row", "lines", "index", "item"], ["row"], ⟨1, 4, b_row_text⟩, []⟩
def b_lines_of : B := (.cons (.ifS (.not (.tv (.isi (.var 0) [.str]))) (.cons (.rais 4 (.cons (.neg (.con (.int 1))) .nil)) .nil) .nil) (.cons (.ifS (.cmp .eq (.var 0) (.con (.str []))) (.cons (.ret (.lst .nil)) .nil) .nil) (.cons (.ret (.me .split (.var 0) (.cons (.con (.str [10])) .nil))) .nil)))
def f_lines_of : Fd := ⟨⟨("lines_of", none), "lines_of", "lines_of", defArgs (top 18), defBody (top 18), defScope (top 18), [], []⟩, ["text"], ["text"], ⟨1, 1, b_lines_of⟩, []⟩
def b_read_row : B := (.cons (.asg (.nm 1) (.lst .nil)) (.cons (.forS (.tp [2, 3]) (.enm (.call 7 (.cons (.var 0) .nil) [])) (.cons (.asg (.nm 4) (.call 5 (.cons (.me .split (.var 3) (.cons (.con (.str [32])) .nil)) .nil) [])) (.cons (.ifS (.isN (.var 4)) (.cons (.rais 4 (.cons (.var 2) .nil)) .nil) .nil) (.cons (.exp (.me .append (.var 1) (.cons (.var 4) .nil))) .nil)))) (.cons (.ret (.var 1)) .nil)))
def f_read_row : Fd := ⟨⟨("read_row", none), "read_row", "read_row", defArgs (top 19), defBody (top 19), defScope (top 19), [], []⟩, ["text", "row", "at", "line", "call"], ["text"], ⟨1, 5, b_read_row⟩, []⟩
def b_item_words : B := (.cons (.ifS (.or (.not (.tv (.isi (.var 0) [.tuple]))) (.or (.cmp .lt (.pr .len (.cons (.var 0) .nil)) (.con (.int 2))) (.not (.tv (.isi (.idx (.var 0) (.con (.int 0))) [.str]))))) (.cons (.ret (.con .non)) .nil) .nil) (.cons (.ifS (.not (.tv (.call 2 (.cons (.idx (.var 0) (.con (.int 1))) (.cons (.con (.int 1)) .nil)) []))) (.cons (.ret (.con .non)) .nil) .nil) (.cons (.ifS (.and (.cmp .eq (.idx (.var 0) (.con (.int 0))) (.con (.str [115, 116, 101, 112]))) (.cmp .eq (.pr .len (.cons (.var 0) .nil)) (.con (.int 2)))) (.cons (.ret (.fstr (.cons (.con (.str [115, 116, 101, 112, 32])) (.cons (.idx (.var 0) (.con (.int 1))) .nil)))) .nil) .nil) (.cons (.ifS (.and (.cmp .eq (.idx (.var 0) (.con (.int 0))) (.con (.str [99, 97, 108, 108]))) (.and (.cmp .eq (.pr .len (.cons (.var 0) .nil)) (.con (.int 3))) (.tv (.call 3 (.cons (.idx (.var 0) (.con (.int 2))) .nil) [])))) (.cons (.ret (.fstr (.cons (.con (.str [99, 97, 108, 108, 32])) (.cons (.idx (.var 0) (.con (.int 1))) (.cons (.con (.str [32])) (.cons (.call 4 (.cons (.idx (.var 0) (.con (.int 2))) .nil) []) .nil)))))) .nil) .nil) (.cons (.ret (.con .non)) .nil)))))
def f_item_words : Fd := ⟨⟨("item_words", none), "item_words", "item_words", defArgs (top 20), defBody (top 20), defScope (top 20), [], []⟩, ["item"], ["item"], ⟨1, 1, b_item_words⟩, []⟩
def b_weaving_text : B := (.cons (.ifS (.not (.tv (.isi (.var 0) [.list]))) (.cons (.rais 3 (.cons (.neg (.con (.int 1))) .nil)) .nil) .nil) (.cons (.asg (.nm 1) (.lst .nil)) (.cons (.forS (.tp [2, 3]) (.enm (.var 0)) (.cons (.asg (.nm 4) (.call 9 (.cons (.var 3) .nil) [])) (.cons (.ifS (.isN (.var 4)) (.cons (.rais 3 (.cons (.var 2) .nil)) .nil) .nil) (.cons (.exp (.me .append (.var 1) (.cons (.var 4) .nil))) .nil)))) (.cons (.ret (.me .join (.con (.str [10])) (.cons (.var 1) .nil))) .nil))))
def f_weaving_text : Fd := ⟨⟨("weaving_text", none), "weaving_text", "weaving_text", defArgs (top 21), defBody (top 21), defScope (top 21), [], []⟩, ["weaving", "lines", "index", "item", "line"], ["weaving"], ⟨1, 5, b_weaving_text⟩, []⟩
def b_item_of : B := (.cons (.ifS (.or (.cmp .lt (.pr .len (.cons (.var 0) .nil)) (.con (.int 2))) (.cmp .nin (.idx (.var 0) (.con (.int 1))) (.tup (.cons (.con (.str [48])) (.cons (.con (.str [49])) .nil))))) (.cons (.ret (.con .non)) .nil) .nil) (.cons (.asg (.nm 1) (.pr .int (.cons (.idx (.var 0) (.con (.int 1))) .nil))) (.cons (.ifS (.and (.cmp .eq (.idx (.var 0) (.con (.int 0))) (.con (.str [115, 116, 101, 112]))) (.cmp .eq (.pr .len (.cons (.var 0) .nil)) (.con (.int 2)))) (.cons (.ret (.tup (.cons (.con (.str [115, 116, 101, 112])) (.cons (.var 1) .nil)))) .nil) .nil) (.cons (.asg (.nm 2) (.call 5 (.cons (.sli (.var 0) (.con (.int 2)) .abs0) .nil) [])) (.cons (.ifS (.or (.cmp .ne (.idx (.var 0) (.con (.int 0))) (.con (.str [99, 97, 108, 108]))) (.isN (.var 2))) (.cons (.ret (.con .non)) .nil) .nil) (.cons (.ret (.tup (.cons (.con (.str [99, 97, 108, 108])) (.cons (.var 1) (.cons (.var 2) .nil))))) .nil))))))
def f_item_of : Fd := ⟨⟨("item_of", none), "item_of", "item_of", defArgs (top 22), defBody (top 22), defScope (top 22), [], []⟩, ["words", "hand", "call"], ["words"], ⟨1, 3, b_item_of⟩, []⟩
def b_read_weaving : B := (.cons (.asg (.nm 1) (.lst .nil)) (.cons (.forS (.tp [2, 3]) (.enm (.call 7 (.cons (.var 0) .nil) [])) (.cons (.asg (.nm 4) (.call 11 (.cons (.me .split (.var 3) (.cons (.con (.str [32])) .nil)) .nil) [])) (.cons (.ifS (.isN (.var 4)) (.cons (.rais 4 (.cons (.var 2) .nil)) .nil) .nil) (.cons (.exp (.me .append (.var 1) (.cons (.var 4) .nil))) .nil)))) (.cons (.ret (.var 1)) .nil)))
def f_read_weaving : Fd := ⟨⟨("read_weaving", none), "read_weaving", "read_weaving", defArgs (top 23), defBody (top 23), defScope (top 23), [], []⟩, ["text", "weaving", "at", "line", "item"], ["text"], ⟨1, 5, b_read_weaving⟩, []⟩
def b_state_text : B := (.cons (.ifS (.or (.not (.tv (.isi (.var 0) [.tuple]))) (.not (.chain .le .le (.con (.int 1)) (.pr .len (.cons (.var 0) .nil)) (.con (.int 6))))) (.cons (.rais 1 .nil) .nil) .nil) (.cons (.forS (.nm 1) (.sq (.var 0)) (.cons (.ifS (.not (.tv (.call 2 (.cons (.var 1) (.cons (.glo 1) .nil)) []))) (.cons (.rais 1 .nil) .nil) .nil) .nil)) (.cons (.ret (.me .join (.con (.str [32])) (.cons (.comp (.pr .str (.cons (.var 1) .nil)) (.nm 1) (.sq (.var 0)) .nil [1]) .nil))) .nil)))
def f_state_text : Fd := ⟨⟨("state_text", none), "state_text", "state_text", defArgs (top 24), defBody (top 24), defScope (top 24), [], []⟩, ["state", "held"], ["state"], ⟨1, 2, b_state_text⟩, []⟩
def b_read_state : B := (.cons (.ifS (.not (.tv (.isi (.var 0) [.str]))) (.cons (.rais 4 (.cons (.neg (.con (.int 1))) .nil)) .nil) .nil) (.cons (.asg (.nm 1) (.me .split (.var 0) (.cons (.con (.str [32])) .nil))) (.cons (.ifS (.cmp .gt (.pr .len (.cons (.var 1) .nil)) (.con (.int 6))) (.cons (.rais 4 (.cons (.con (.int 0)) .nil)) .nil) .nil) (.cons (.forS (.nm 2) (.sq (.var 1)) (.cons (.ifS (.cmp .nin (.var 2) (.glo 2)) (.cons (.rais 4 (.cons (.con (.int 0)) .nil)) .nil) .nil) .nil)) (.cons (.ret (.pr .tuple (.cons (.comp (.pr .int (.cons (.var 2) .nil)) (.nm 2) (.sq (.var 1)) .nil [2]) .nil))) .nil)))))
def f_read_state : Fd := ⟨⟨("read_state", none), "read_state", "read_state", defArgs (top 25), defBody (top 25), defScope (top 25), [], []⟩, ["text", "words", "word"], ["text"], ⟨1, 3, b_read_state⟩, []⟩
def b__law_pool : B := (.cons (.ifS (.cmp .eq (.pr .len (.cons (.var 0) .nil)) (.con (.int 0))) (.cons (.ret (.lst (.cons (.con (.int 0)) (.cons (.bin .add (.con (.int 5)) (.bin .mul (.con (.int 1009)) (.var 1))) (.cons (.con (.int 0)) .nil))))) .nil) .nil) (.cons (.asg (.nm 2) (.pr .abs (.cons (.idx (.var 0) (.bin .mod (.var 1) (.pr .len (.cons (.var 0) .nil)))) .nil))) (.cons (.asg (.nm 3) (.bin .add (.bin .add (.bin .mod (.pr .int (.cons (.var 2) .nil)) (.con (.int 2147483629))) (.bin .mul (.con (.int 1009)) (.var 1))) (.pr .int (.cons (.cmp .lt (.idx (.var 0) (.bin .mod (.var 1) (.pr .len (.cons (.var 0) .nil)))) (.con (.int 0))) .nil)))) (.cons (.ifS (.and (.cmp .lt (.var 1) (.pr .len (.cons (.var 0) .nil))) (.cmp .ge (.var 2) (.bin .pow (.con (.int 10)) (.con (.int 18))))) (.cons (.ret (.lst (.cons (.var 2) (.cons (.var 3) (.cons (.con (.int 0)) .nil))))) .nil) .nil) (.cons (.ret (.lst (.cons (.con (.int 0)) (.cons (.var 3) (.cons (.con (.int 0)) .nil))))) .nil)))))
def f__law_pool : Fd := ⟨⟨("_law_pool", none), "_law_pool", "_law_pool", defArgs (top 27), defBody (top 27), defScope (top 27), [], []⟩, ["_law_script", "_law_k", "_law_cell", "_law_seed"], ["_law_script", "_law_k"], ⟨2, 4, b__law_pool⟩, []⟩
def b__law_draw : B := (.cons (.ifS (.cmp .gt (.idx (.var 0) (.con (.int 0))) (.con (.int 0))) (.cons (.asg (.nm 2) (.bin .mod (.pr .int (.cons (.idx (.var 0) (.con (.int 0))) .nil)) (.var 1))) (.cons (.seti (.var 0) (.con (.int 0)) (.bin .fdiv (.idx (.var 0) (.con (.int 0))) (.var 1))) (.cons (.ret (.var 2)) .nil))) .nil) (.cons (.seti (.var 0) (.con (.int 2)) (.bin .add (.idx (.var 0) (.con (.int 2))) (.con (.int 1)))) (.cons (.asg (.nm 3) (.bin .mod (.pr .int (.cons (.bin .mul (.bin .add (.idx (.var 0) (.con (.int 1))) (.con (.int 1))) (.bin .add (.bin .mul (.con (.int 7919)) (.idx (.var 0) (.con (.int 2)))) (.con (.int 104729)))) .nil)) (.con (.int 2147483647)))) (.cons (.asg (.nm 3) (.bin .mod (.pr .int (.cons (.bin .mul (.var 3) (.bin .add (.bin .fdiv (.var 3) (.con (.int 1009))) (.con (.int 69621)))) .nil)) (.con (.int 2147483647)))) (.cons (.asg (.nm 3) (.bin .mod (.pr .int (.cons (.bin .mul (.var 3) (.bin .add (.bin .fdiv (.var 3) (.con (.int 2003))) (.con (.int 40692)))) .nil)) (.con (.int 2147483399)))) (.cons (.ret (.bin .mod (.pr .int (.cons (.bin .fdiv (.var 3) (.con (.int 16))) .nil)) (.var 1))) .nil))))))
def f__law_draw : Fd := ⟨⟨("_law_draw", none), "_law_draw", "_law_draw", defArgs (top 28), defBody (top 28), defScope (top 28), [], []⟩, ["_law_pool_here", "_law_many", "_law_digit", "_law_number"], ["_law_pool_here", "_law_many"], ⟨2, 4, b__law_draw⟩, []⟩
def b__law_name : B := (.cons (.asg (.nm 1) (.con (.str [97, 98, 99, 100, 101, 102, 103, 104, 105, 106, 107, 108, 109, 110, 111, 112, 113, 114, 115, 116, 117, 118, 119, 120, 121, 122]))) (.cons (.ret (.me .join (.con (.str [])) (.cons (.comp (.idx (.var 1) (.call 16 (.cons (.var 0) (.cons (.con (.int 26)) .nil)) [])) (.nm 2) (.rng1 (.bin .add (.con (.int 1)) (.call 16 (.cons (.var 0) (.cons (.con (.int 8)) .nil)) []))) .nil [2]) .nil))) .nil))
def f__law_name : Fd := ⟨⟨("_law_name", none), "_law_name", "_law_name", defArgs (top 29), defBody (top 29), defScope (top 29), [], []⟩, ["_law_pool_here", "_law_letters", "_law_turn"], ["_law_pool_here"], ⟨1, 3, b__law_name⟩, []⟩
def b__law_call : B := (.cons (.ret (.tup (.cons (.call 17 (.cons (.var 0) .nil) []) (.cons (.call 16 (.cons (.var 0) (.cons (.con (.int 9)) .nil)) []) .nil)))) .nil)
def f__law_call : Fd := ⟨⟨("_law_call", none), "_law_call", "_law_call", defArgs (top 30), defBody (top 30), defScope (top 30), [], []⟩, ["_law_pool_here"], ["_law_pool_here"], ⟨1, 1, b__law_call⟩, []⟩
def b__law_item : B := (.cons (.asg (.nm 1) (.call 16 (.cons (.var 0) (.cons (.con (.int 2)) .nil)) [])) (.cons (.ifS (.cmp .eq (.call 16 (.cons (.var 0) (.cons (.con (.int 2)) .nil)) []) (.con (.int 0))) (.cons (.ret (.tup (.cons (.con (.str [115, 116, 101, 112])) (.cons (.var 1) .nil)))) .nil) .nil) (.cons (.ret (.tup (.cons (.con (.str [99, 97, 108, 108])) (.cons (.var 1) (.cons (.call 18 (.cons (.var 0) .nil) []) .nil))))) .nil)))
def f__law_item : Fd := ⟨⟨("_law_item", none), "_law_item", "_law_item", defArgs (top 31), defBody (top 31), defScope (top 31), [], []⟩, ["_law_pool_here", "_law_hand"], ["_law_pool_here"], ⟨1, 2, b__law_item⟩, []⟩
def b__law_call_line : B := (.cons (.ret (.bin .add (.bin .add (.idx (.var 0) (.con (.int 0))) (.con (.str [32]))) (.pr .str (.cons (.idx (.var 0) (.con (.int 1))) .nil)))) .nil)
def f__law_call_line : Fd := ⟨⟨("_law_call_line", none), "_law_call_line", "_law_call_line", defArgs (top 32), defBody (top 32), defScope (top 32), [], []⟩, ["_law_call_here"], ["_law_call_here"], ⟨1, 1, b__law_call_line⟩, []⟩
def b__law_item_line : B := (.cons (.ifS (.cmp .eq (.idx (.var 0) (.con (.int 0))) (.con (.str [115, 116, 101, 112]))) (.cons (.ret (.bin .add (.con (.str [115, 116, 101, 112, 32])) (.pr .str (.cons (.idx (.var 0) (.con (.int 1))) .nil)))) .nil) .nil) (.cons (.ret (.bin .add (.bin .add (.bin .add (.con (.str [99, 97, 108, 108, 32])) (.pr .str (.cons (.idx (.var 0) (.con (.int 1))) .nil))) (.con (.str [32]))) (.call 20 (.cons (.idx (.var 0) (.con (.int 2))) .nil) []))) .nil))
def f__law_item_line : Fd := ⟨⟨("_law_item_line", none), "_law_item_line", "_law_item_line", defArgs (top 33), defBody (top 33), defScope (top 33), [], []⟩, ["_law_item_here"], ["_law_item_here"], ⟨1, 1, b__law_item_line⟩, []⟩
def b__law_same : B := (.cons (.ifS (.tv (.isi (.var 1) [.tuple])) (.cons (.ifS (.or (.not (.tv (.isi (.var 0) [.tuple]))) (.cmp .ne (.pr .len (.cons (.var 0) .nil)) (.pr .len (.cons (.var 1) .nil)))) (.cons (.ret (.con (.bl false))) .nil) .nil) (.cons (.ret (.pr .all (.cons (.comp (.call 22 (.cons (.idx (.var 0) (.var 2)) (.cons (.idx (.var 1) (.var 2)) .nil)) []) (.nm 2) (.rng1 (.pr .len (.cons (.var 1) .nil))) .nil [2]) .nil))) .nil)) .nil) (.cons (.ifS (.tv (.isi (.var 1) [.str])) (.cons (.ret (.and (.isi (.var 0) [.str]) (.cmp .eq (.var 0) (.var 1)))) .nil) .nil) (.cons (.ret (.and (.isi (.var 0) [.int]) (.and (.not (.isi (.var 0) [.bool])) (.cmp .eq (.var 0) (.var 1))))) .nil)))
def f__law_same : Fd := ⟨⟨("_law_same", none), "_law_same", "_law_same", defArgs (top 34), defBody (top 34), defScope (top 34), [], []⟩, ["_law_one", "_law_due", "_law_k"], ["_law_one", "_law_due"], ⟨2, 3, b__law_same⟩, []⟩
def b__law_is_list : B := (.cons (.ret (.and (.isi (.var 0) [.list]) (.call 22 (.cons (.pr .tuple (.cons (.var 0) .nil)) (.cons (.pr .tuple (.cons (.var 1) .nil)) .nil)) []))) .nil)
def f__law_is_list : Fd := ⟨⟨("_law_is_list", none), "_law_is_list", "_law_is_list", defArgs (top 35), defBody (top 35), defScope (top 35), [], []⟩, ["_law_one", "_law_due"], ["_law_one", "_law_due"], ⟨2, 2, b__law_is_list⟩, []⟩
def b__law_row : B := (.cons (.asg (.nm 1) (.pr .list (.cons (.var 0) .nil))) (.cons (.asg (.nm 2) (.me .join (.con (.str [10])) (.cons (.comp (.call 20 (.cons (.var 3) .nil) []) (.nm 3) (.sq (.var 0)) .nil [3]) .nil))) (.cons (.asg (.nm 4) (.call 6 (.cons (.var 1) .nil) [])) (.cons (.ifS (.or (.not (.tv (.isi (.var 4) [.str]))) (.or (.cmp .ne (.var 4) (.var 2)) (.cmp .ne (.var 1) (.var 0)))) (.cons (.ret (.con (.bl false))) .nil) .nil) (.cons (.asg (.nm 5) (.call 8 (.cons (.var 2) .nil) [])) (.cons (.ifS (.not (.tv (.call 23 (.cons (.var 5) (.cons (.var 0) .nil)) []))) (.cons (.ret (.con (.bl false))) .nil) .nil) (.cons (.exp (.me .append (.var 5) (.cons (.tup (.cons (.con (.str [122])) (.cons (.con (.int 0)) .nil))) .nil))) (.cons (.exp (.me .append (.var 1) (.cons (.tup (.cons (.con (.str [122])) (.cons (.con (.int 0)) .nil))) .nil))) (.cons (.ret (.and (.call 23 (.cons (.call 8 (.cons (.var 2) .nil) []) (.cons (.var 0) .nil)) []) (.cmp .eq (.call 6 (.cons (.pr .list (.cons (.var 0) .nil)) .nil) []) (.var 2)))) .nil)))))))))
def f__law_row : Fd := ⟨⟨("_law_row", none), "_law_row", "_law_row", defArgs (top 36), defBody (top 36), defScope (top 36), [], []⟩, ["_law_row_here", "_law_given", "_law_text", "_law_call_here", "_law_told", "_law_back"], ["_law_row_here"], ⟨1, 6, b__law_row⟩, []⟩
def b__law_weaving : B := (.cons (.asg (.nm 1) (.pr .list (.cons (.var 0) .nil))) (.cons (.asg (.nm 2) (.me .join (.con (.str [10])) (.cons (.comp (.call 21 (.cons (.var 3) .nil) []) (.nm 3) (.sq (.var 0)) .nil [3]) .nil))) (.cons (.asg (.nm 4) (.call 10 (.cons (.var 1) .nil) [])) (.cons (.ifS (.or (.not (.tv (.isi (.var 4) [.str]))) (.or (.cmp .ne (.var 4) (.var 2)) (.cmp .ne (.var 1) (.var 0)))) (.cons (.ret (.con (.bl false))) .nil) .nil) (.cons (.asg (.nm 5) (.call 12 (.cons (.var 2) .nil) [])) (.cons (.ifS (.not (.tv (.call 23 (.cons (.var 5) (.cons (.var 0) .nil)) []))) (.cons (.ret (.con (.bl false))) .nil) .nil) (.cons (.exp (.me .append (.var 5) (.cons (.tup (.cons (.con (.str [115, 116, 101, 112])) (.cons (.con (.int 0)) .nil))) .nil))) (.cons (.ret (.and (.call 23 (.cons (.call 12 (.cons (.var 2) .nil) []) (.cons (.var 0) .nil)) []) (.cmp .eq (.call 10 (.cons (.pr .list (.cons (.var 0) .nil)) .nil) []) (.var 2)))) .nil))))))))
def f__law_weaving : Fd := ⟨⟨("_law_weaving", none), "_law_weaving", "_law_weaving", defArgs (top 37), defBody (top 37), defScope (top 37), [], []⟩, ["_law_weaving_here", "_law_given", "_law_text", "_law_item_here", "_law_told", "_law_back"], ["_law_weaving_here"], ⟨1, 6, b__law_weaving⟩, []⟩
def b__law_state : B := (.cons (.asg (.nm 1) (.me .join (.con (.str [32])) (.cons (.comp (.pr .str (.cons (.var 2) .nil)) (.nm 2) (.sq (.var 0)) .nil [2]) .nil))) (.cons (.asg (.nm 3) (.call 13 (.cons (.var 0) .nil) [])) (.cons (.ret (.and (.isi (.var 3) [.str]) (.and (.cmp .eq (.var 3) (.var 1)) (.call 22 (.cons (.call 14 (.cons (.var 1) .nil) []) (.cons (.var 0) .nil)) [])))) .nil)))
def f__law_state : Fd := ⟨⟨("_law_state", none), "_law_state", "_law_state", defArgs (top 38), defBody (top 38), defScope (top 38), [], []⟩, ["_law_state_here", "_law_text", "_law_held", "_law_told"], ["_law_state_here"], ⟨1, 4, b__law_state⟩, []⟩
def b_law : B := (.cons (.asg (.nm 1) (.call 15 (.cons (.var 0) (.cons (.con (.int 0)) .nil)) [])) (.cons (.asg (.nm 2) (.con (.int 1))) (.cons (.ifS (.cmp .eq (.call 16 (.cons (.var 1) (.cons (.con (.int 8)) .nil)) []) (.con (.int 2))) (.cons (.asg (.nm 2) (.con (.int 20))) .nil) .nil) (.cons (.asg (.nm 3) (.pr .tuple (.cons (.comp (.call 16 (.cons (.var 1) (.cons (.con (.int 9)) .nil)) []) (.nm 4) (.rng1 (.bin .add (.con (.int 1)) (.call 16 (.cons (.var 1) (.cons (.con (.int 6)) .nil)) []))) .nil [4]) .nil))) (.cons (.asg (.nm 5) (.call 15 (.cons (.var 0) (.cons (.con (.int 1)) .nil)) [])) (.cons (.asg (.nm 6) (.call 15 (.cons (.var 0) (.cons (.con (.int 2)) .nil)) [])) (.cons (.asg (.nm 7) (.comp (.call 18 (.cons (.var 5) .nil) []) (.nm 4) (.rng1 (.call 16 (.cons (.var 5) (.cons (.con (.int 21)) .nil)) [])) .nil [4])) (.cons (.asg (.nm 8) (.comp (.call 19 (.cons (.var 6) .nil) []) (.nm 4) (.rng1 (.call 16 (.cons (.var 6) (.cons (.con (.int 21)) .nil)) [])) .nil [4])) (.cons (.ifS (.or (.not (.tv (.call 24 (.cons (.bin .mul (.var 7) (.var 2)) .nil) []))) (.not (.tv (.call 25 (.cons (.bin .mul (.var 8) (.var 2)) .nil) [])))) (.cons (.ret (.con (.bl false))) .nil) .nil) (.cons (.ret (.and (.call 26 (.cons (.var 3) .nil) []) (.and (.call 24 (.cons (.sli (.var 7) .abs0 (.con (.int 1))) .nil) []) (.call 25 (.cons (.sli (.var 8) (.con (.int 1)) .abs0) .nil) [])))) .nil))))))))))
def f_law : Fd := ⟨⟨("law", none), "law", "law", defArgs (top 39), defBody (top 39), defScope (top 39), [], []⟩, ["_law_script", "_law_pool_here", "_law_times", "_law_state_here", "_law_turn", "_law_calls", "_law_items", "_law_row_here", "_law_weaving_here"], ["_law_script"], ⟨1, 9, b_law⟩, []⟩
def L : Ld where
  fds := [f_is_integer, f_is_name, f_is_small, f_is_call_form, f_call_words, f_call_of, f_row_text, f_lines_of, f_read_row, f_item_words, f_weaving_text, f_item_of] ++ [f_read_weaving, f_state_text, f_read_state, f__law_pool, f__law_draw, f__law_name, f__law_call, f__law_item, f__law_call_line, f__law_item_line, f__law_same, f__law_is_list] ++ [f__law_row, f__law_weaving, f__law_state, f_law]
  cls := [("PastError", some none), ("NoState", some none), ("NoRow", some (some 0)), ("NoWeaving", some (some 0)), ("NoText", some (some 1))]
  flds := ["index", "line"]
  gls := [("LETTERS", (.str [97, 98, 99, 100, 101, 102, 103, 104, 105, 106, 107, 108, 109, 110, 111, 112, 113, 114, 115, 116, 117, 118, 119, 120, 121, 122])), ("LARGEST", (.int 8)), ("HELD", (.tup [(.str [48]), (.str [49]), (.str [50]), (.str [51]), (.str [52]), (.str [53]), (.str [54]), (.str [55]), (.str [56])]))]
  mts := []
  mks := []
  xis := [(2, ⟨("NoRow", some "__init__"), "__init__", "NoRow.__init__", defArgs (inn 3 0), defBody (inn 3 0), defScope (inn 3 0), [], []⟩, "self", "index"), (3, ⟨("NoWeaving", some "__init__"), "__init__", "NoWeaving.__init__", defArgs (inn 4 0), defBody (inn 4 0), defScope (inn 4 0), [], []⟩, "self", "index"), (4, ⟨("NoText", some "__init__"), "__init__", "NoText.__init__", defArgs (inn 5 0), defBody (inn 5 0), defScope (inn 5 0), [], []⟩, "self", "line")]
  subs := [(0, 0), (1, 1), (1, 0), (2, 2), (2, 0), (3, 3), (3, 0), (4, 4), (4, 0)]
theorem stat : L.stat = true := by kernel_rfl
end Y.K_k17
set_option linter.all false
set_option maxHeartbeats 4000000
set_option maxRecDepth 100000
namespace Y.K_k17
open Y
abbrev T : Tab := L.tab
def Pool (h : Nat) (st : Store) : Prop := ∃ c s t : Int, st[h]? = some (.lst [.int c, .int s, .int t]) ∧ 0 ≤ c ∧ 0 ≤ s ∧ s < 2 ^ 40
structure Ch (h : Nat) (st st' : Store) : Prop where
  pool : Pool h st'
  len : st.length ≤ st'.length
  same : ∀ g, g ≠ h → g < st.length → st'[g]? = st[g]?
theorem draw {k h : Nat} {m : Int} {st : Store} {Q : QE} {X : QX} (hm : 0 < m) (hm2 : m < 1073741824) (P : Pool h st) (hq : ∀ (v : Int) (st' : Store), 0 ≤ v → v < m → st'.length = st.length → Ch h st st' → Q (.int v) st') : Call T (k + 1) 16 [.ref h, .int m] st Q X := by
  obtain ⟨c, s, t, e, hc0, hs, hs2⟩ := P
  have l : h < st.length := (List.getElem?_eq_some_iff.mp e).1
  have up : ∀ (c' s' t' : Int), 0 ≤ c' → 0 ≤ s' → s' < 2 ^ 40 → Ch h st (st.set h (.lst [.int c', .int s', .int t'])) := fun c' s' t' h1 h2 h3 =>
    ⟨⟨c', s', t', List.getElem?_set_self l, h1, h2, h3⟩, by simp, fun g hg _ => List.getElem?_set_ne (Ne.symm hg)⟩
  refine call_go f__law_draw.fn rfl rfl ?_
  show wpB T (Call T k) none b__law_draw [some (.ref h), some (.int m), none, none] st _
  unfold b__law_draw
  repeat (with_reducible (first | refine go_Bnil ?_ | refine go_Bcons ?_ | refine go_asg ?_ | refine go_seti ?_ | refine go_exp ?_ | refine go_ret ?_ | refine go_if ?_ | refine go_var ?_ | refine go_con ?_ | refine go_bin ?_ | refine go_neg ?_ | refine go_cmp ?_ | refine go_chain ?_ | refine go_isN ?_ | refine go_and ?_ | refine go_or ?_ | refine go_not ?_ | refine go_call ?_ | refine go_pr ?_ | refine go_me ?_ | refine go_isi ?_ | refine go_idx ?_ | refine go_sli ?_ | refine go_abs0 ?_ | refine go_tup ?_ | refine go_lst ?_ | refine go_fstr ?_ | refine go_Tcmp ?_ | refine go_Tchain ?_ | refine go_TisN ?_ | refine go_Tand ?_ | refine go_Tor ?_ | refine go_Tnot ?_ | refine go_Ttv ?_ | refine go_nil ?_ | refine go_cons ?_ | refine go_Fnil ?_ | refine go_Fcons ?_ | refine go_comp ?_ | refine go_sq ?_ | refine go_enm ?_ | refine go_rng1 ?_ | refine go_for ?_ | refine go_v0 ?_ | refine go_vs ?_ | refine go_add ?_ | refine go_sub ?_ | refine go_int ?_ | refine go_intb ?_ | refine go_abs ?_ | refine go_lent ?_ | refine go_lt ?_ | refine go_le ?_ | refine go_gt ?_ | refine go_ge ?_ | refine go_eqi ?_ | refine go_nei ?_ | refine go_eqs ?_ | refine go_nes ?_ | refine go_tb ?_ | refine go_t ?_ | refine go_f ?_ | (apply go_glo; with_unfolding_all exact rfl) | (apply go_lenl; (first | assumption | exact List.getElem?_set_self (by first | assumption | omega) | exact List.getElem?_concat_length)) | (apply go_lenf; (first | assumption | exact List.getElem?_set_self (by first | assumption | omega) | exact List.getElem?_concat_length)) | (apply go_il; (first | assumption | exact List.getElem?_set_self (by first | assumption | omega) | exact List.getElem?_concat_length); with_unfolding_all exact rfl; with_unfolding_all exact rfl) | (apply go_it; with_unfolding_all exact rfl; with_unfolding_all exact rfl) | (apply go_set; (first | assumption | exact List.getElem?_set_self (by first | assumption | omega) | exact List.getElem?_concat_length); with_unfolding_all exact rfl) | dsimp only [List.set_cons_zero, List.set_cons_succ, set_0, set_s]))
  refine go_dc (fun hc => ?_) (fun hc => ?_)
  · repeat (with_reducible (first | refine go_Bnil ?_ | refine go_Bcons ?_ | refine go_asg ?_ | refine go_seti ?_ | refine go_exp ?_ | refine go_ret ?_ | refine go_if ?_ | refine go_var ?_ | refine go_con ?_ | refine go_bin ?_ | refine go_neg ?_ | refine go_cmp ?_ | refine go_chain ?_ | refine go_isN ?_ | refine go_and ?_ | refine go_or ?_ | refine go_not ?_ | refine go_call ?_ | refine go_pr ?_ | refine go_me ?_ | refine go_isi ?_ | refine go_idx ?_ | refine go_sli ?_ | refine go_abs0 ?_ | refine go_tup ?_ | refine go_lst ?_ | refine go_fstr ?_ | refine go_Tcmp ?_ | refine go_Tchain ?_ | refine go_TisN ?_ | refine go_Tand ?_ | refine go_Tor ?_ | refine go_Tnot ?_ | refine go_Ttv ?_ | refine go_nil ?_ | refine go_cons ?_ | refine go_Fnil ?_ | refine go_Fcons ?_ | refine go_comp ?_ | refine go_sq ?_ | refine go_enm ?_ | refine go_rng1 ?_ | refine go_for ?_ | refine go_v0 ?_ | refine go_vs ?_ | refine go_add ?_ | refine go_sub ?_ | refine go_int ?_ | refine go_intb ?_ | refine go_abs ?_ | refine go_lent ?_ | refine go_lt ?_ | refine go_le ?_ | refine go_gt ?_ | refine go_ge ?_ | refine go_eqi ?_ | refine go_nei ?_ | refine go_eqs ?_ | refine go_nes ?_ | refine go_tb ?_ | refine go_t ?_ | refine go_f ?_ | (apply go_glo; with_unfolding_all exact rfl) | (apply go_lenl; (first | assumption | exact List.getElem?_set_self (by first | assumption | omega) | exact List.getElem?_concat_length)) | (apply go_lenf; (first | assumption | exact List.getElem?_set_self (by first | assumption | omega) | exact List.getElem?_concat_length)) | (apply go_il; (first | assumption | exact List.getElem?_set_self (by first | assumption | omega) | exact List.getElem?_concat_length); with_unfolding_all exact rfl; with_unfolding_all exact rfl) | (apply go_it; with_unfolding_all exact rfl; with_unfolding_all exact rfl) | (apply go_set; (first | assumption | exact List.getElem?_set_self (by first | assumption | omega) | exact List.getElem?_concat_length); with_unfolding_all exact rfl) | dsimp only [List.set_cons_zero, List.set_cons_succ, set_0, set_s]))
    refine go_mod hm ?_
    repeat (with_reducible (first | refine go_Bnil ?_ | refine go_Bcons ?_ | refine go_asg ?_ | refine go_seti ?_ | refine go_exp ?_ | refine go_ret ?_ | refine go_if ?_ | refine go_var ?_ | refine go_con ?_ | refine go_bin ?_ | refine go_neg ?_ | refine go_cmp ?_ | refine go_chain ?_ | refine go_isN ?_ | refine go_and ?_ | refine go_or ?_ | refine go_not ?_ | refine go_call ?_ | refine go_pr ?_ | refine go_me ?_ | refine go_isi ?_ | refine go_idx ?_ | refine go_sli ?_ | refine go_abs0 ?_ | refine go_tup ?_ | refine go_lst ?_ | refine go_fstr ?_ | refine go_Tcmp ?_ | refine go_Tchain ?_ | refine go_TisN ?_ | refine go_Tand ?_ | refine go_Tor ?_ | refine go_Tnot ?_ | refine go_Ttv ?_ | refine go_nil ?_ | refine go_cons ?_ | refine go_Fnil ?_ | refine go_Fcons ?_ | refine go_comp ?_ | refine go_sq ?_ | refine go_enm ?_ | refine go_rng1 ?_ | refine go_for ?_ | refine go_v0 ?_ | refine go_vs ?_ | refine go_add ?_ | refine go_sub ?_ | refine go_int ?_ | refine go_intb ?_ | refine go_abs ?_ | refine go_lent ?_ | refine go_lt ?_ | refine go_le ?_ | refine go_gt ?_ | refine go_ge ?_ | refine go_eqi ?_ | refine go_nei ?_ | refine go_eqs ?_ | refine go_nes ?_ | refine go_tb ?_ | refine go_t ?_ | refine go_f ?_ | (apply go_glo; with_unfolding_all exact rfl) | (apply go_lenl; (first | assumption | exact List.getElem?_set_self (by first | assumption | omega) | exact List.getElem?_concat_length)) | (apply go_lenf; (first | assumption | exact List.getElem?_set_self (by first | assumption | omega) | exact List.getElem?_concat_length)) | (apply go_il; (first | assumption | exact List.getElem?_set_self (by first | assumption | omega) | exact List.getElem?_concat_length); with_unfolding_all exact rfl; with_unfolding_all exact rfl) | (apply go_it; with_unfolding_all exact rfl; with_unfolding_all exact rfl) | (apply go_set; (first | assumption | exact List.getElem?_set_self (by first | assumption | omega) | exact List.getElem?_concat_length); with_unfolding_all exact rfl) | dsimp only [List.set_cons_zero, List.set_cons_succ, set_0, set_s]))
    refine go_fdiv ⟨hm, hm2⟩ ?_
    repeat (with_reducible (first | refine go_Bnil ?_ | refine go_Bcons ?_ | refine go_asg ?_ | refine go_seti ?_ | refine go_exp ?_ | refine go_ret ?_ | refine go_if ?_ | refine go_var ?_ | refine go_con ?_ | refine go_bin ?_ | refine go_neg ?_ | refine go_cmp ?_ | refine go_chain ?_ | refine go_isN ?_ | refine go_and ?_ | refine go_or ?_ | refine go_not ?_ | refine go_call ?_ | refine go_pr ?_ | refine go_me ?_ | refine go_isi ?_ | refine go_idx ?_ | refine go_sli ?_ | refine go_abs0 ?_ | refine go_tup ?_ | refine go_lst ?_ | refine go_fstr ?_ | refine go_Tcmp ?_ | refine go_Tchain ?_ | refine go_TisN ?_ | refine go_Tand ?_ | refine go_Tor ?_ | refine go_Tnot ?_ | refine go_Ttv ?_ | refine go_nil ?_ | refine go_cons ?_ | refine go_Fnil ?_ | refine go_Fcons ?_ | refine go_comp ?_ | refine go_sq ?_ | refine go_enm ?_ | refine go_rng1 ?_ | refine go_for ?_ | refine go_v0 ?_ | refine go_vs ?_ | refine go_add ?_ | refine go_sub ?_ | refine go_int ?_ | refine go_intb ?_ | refine go_abs ?_ | refine go_lent ?_ | refine go_lt ?_ | refine go_le ?_ | refine go_gt ?_ | refine go_ge ?_ | refine go_eqi ?_ | refine go_nei ?_ | refine go_eqs ?_ | refine go_nes ?_ | refine go_tb ?_ | refine go_t ?_ | refine go_f ?_ | (apply go_glo; with_unfolding_all exact rfl) | (apply go_lenl; (first | assumption | exact List.getElem?_set_self (by first | assumption | omega) | exact List.getElem?_concat_length)) | (apply go_lenf; (first | assumption | exact List.getElem?_set_self (by first | assumption | omega) | exact List.getElem?_concat_length)) | (apply go_il; (first | assumption | exact List.getElem?_set_self (by first | assumption | omega) | exact List.getElem?_concat_length); with_unfolding_all exact rfl; with_unfolding_all exact rfl) | (apply go_it; with_unfolding_all exact rfl; with_unfolding_all exact rfl) | (apply go_set; (first | assumption | exact List.getElem?_set_self (by first | assumption | omega) | exact List.getElem?_concat_length); with_unfolding_all exact rfl) | dsimp only [List.set_cons_zero, List.set_cons_succ, set_0, set_s]))
    exact hq _ _ (Int.emod_nonneg _ (by omega)) (Int.emod_lt_of_pos _ hm) (by simp) (up _ _ _ (Int.ediv_nonneg (by omega) (by omega)) hs hs2)
  · repeat (with_reducible (first | refine go_Bnil ?_ | refine go_Bcons ?_ | refine go_asg ?_ | refine go_seti ?_ | refine go_exp ?_ | refine go_ret ?_ | refine go_if ?_ | refine go_var ?_ | refine go_con ?_ | refine go_bin ?_ | refine go_neg ?_ | refine go_cmp ?_ | refine go_chain ?_ | refine go_isN ?_ | refine go_and ?_ | refine go_or ?_ | refine go_not ?_ | refine go_call ?_ | refine go_pr ?_ | refine go_me ?_ | refine go_isi ?_ | refine go_idx ?_ | refine go_sli ?_ | refine go_abs0 ?_ | refine go_tup ?_ | refine go_lst ?_ | refine go_fstr ?_ | refine go_Tcmp ?_ | refine go_Tchain ?_ | refine go_TisN ?_ | refine go_Tand ?_ | refine go_Tor ?_ | refine go_Tnot ?_ | refine go_Ttv ?_ | refine go_nil ?_ | refine go_cons ?_ | refine go_Fnil ?_ | refine go_Fcons ?_ | refine go_comp ?_ | refine go_sq ?_ | refine go_enm ?_ | refine go_rng1 ?_ | refine go_for ?_ | refine go_v0 ?_ | refine go_vs ?_ | refine go_add ?_ | refine go_sub ?_ | refine go_int ?_ | refine go_intb ?_ | refine go_abs ?_ | refine go_lent ?_ | refine go_lt ?_ | refine go_le ?_ | refine go_gt ?_ | refine go_ge ?_ | refine go_eqi ?_ | refine go_nei ?_ | refine go_eqs ?_ | refine go_nes ?_ | refine go_tb ?_ | refine go_t ?_ | refine go_f ?_ | (apply go_glo; with_unfolding_all exact rfl) | (apply go_lenl; (first | assumption | exact List.getElem?_set_self (by first | assumption | omega) | exact List.getElem?_concat_length)) | (apply go_lenf; (first | assumption | exact List.getElem?_set_self (by first | assumption | omega) | exact List.getElem?_concat_length)) | (apply go_il; (first | assumption | exact List.getElem?_set_self (by first | assumption | omega) | exact List.getElem?_concat_length); with_unfolding_all exact rfl; with_unfolding_all exact rfl) | (apply go_it; with_unfolding_all exact rfl; with_unfolding_all exact rfl) | (apply go_set; (first | assumption | exact List.getElem?_set_self (by first | assumption | omega) | exact List.getElem?_concat_length); with_unfolding_all exact rfl) | dsimp only [List.set_cons_zero, List.set_cons_succ, set_0, set_s]))
    refine go_mul (.inl ⟨by decide, by decide⟩) ?_
    repeat (with_reducible (first | refine go_Bnil ?_ | refine go_Bcons ?_ | refine go_asg ?_ | refine go_seti ?_ | refine go_exp ?_ | refine go_ret ?_ | refine go_if ?_ | refine go_var ?_ | refine go_con ?_ | refine go_bin ?_ | refine go_neg ?_ | refine go_cmp ?_ | refine go_chain ?_ | refine go_isN ?_ | refine go_and ?_ | refine go_or ?_ | refine go_not ?_ | refine go_call ?_ | refine go_pr ?_ | refine go_me ?_ | refine go_isi ?_ | refine go_idx ?_ | refine go_sli ?_ | refine go_abs0 ?_ | refine go_tup ?_ | refine go_lst ?_ | refine go_fstr ?_ | refine go_Tcmp ?_ | refine go_Tchain ?_ | refine go_TisN ?_ | refine go_Tand ?_ | refine go_Tor ?_ | refine go_Tnot ?_ | refine go_Ttv ?_ | refine go_nil ?_ | refine go_cons ?_ | refine go_Fnil ?_ | refine go_Fcons ?_ | refine go_comp ?_ | refine go_sq ?_ | refine go_enm ?_ | refine go_rng1 ?_ | refine go_for ?_ | refine go_v0 ?_ | refine go_vs ?_ | refine go_add ?_ | refine go_sub ?_ | refine go_int ?_ | refine go_intb ?_ | refine go_abs ?_ | refine go_lent ?_ | refine go_lt ?_ | refine go_le ?_ | refine go_gt ?_ | refine go_ge ?_ | refine go_eqi ?_ | refine go_nei ?_ | refine go_eqs ?_ | refine go_nes ?_ | refine go_tb ?_ | refine go_t ?_ | refine go_f ?_ | (apply go_glo; with_unfolding_all exact rfl) | (apply go_lenl; (first | assumption | exact List.getElem?_set_self (by first | assumption | omega) | exact List.getElem?_concat_length)) | (apply go_lenf; (first | assumption | exact List.getElem?_set_self (by first | assumption | omega) | exact List.getElem?_concat_length)) | (apply go_il; (first | assumption | exact List.getElem?_set_self (by first | assumption | omega) | exact List.getElem?_concat_length); with_unfolding_all exact rfl; with_unfolding_all exact rfl) | (apply go_it; with_unfolding_all exact rfl; with_unfolding_all exact rfl) | (apply go_set; (first | assumption | exact List.getElem?_set_self (by first | assumption | omega) | exact List.getElem?_concat_length); with_unfolding_all exact rfl) | dsimp only [List.set_cons_zero, List.set_cons_succ, set_0, set_s]))
    refine go_mul (.inl ⟨by omega, by omega⟩) ?_
    repeat (with_reducible (first | refine go_Bnil ?_ | refine go_Bcons ?_ | refine go_asg ?_ | refine go_seti ?_ | refine go_exp ?_ | refine go_ret ?_ | refine go_if ?_ | refine go_var ?_ | refine go_con ?_ | refine go_bin ?_ | refine go_neg ?_ | refine go_cmp ?_ | refine go_chain ?_ | refine go_isN ?_ | refine go_and ?_ | refine go_or ?_ | refine go_not ?_ | refine go_call ?_ | refine go_pr ?_ | refine go_me ?_ | refine go_isi ?_ | refine go_idx ?_ | refine go_sli ?_ | refine go_abs0 ?_ | refine go_tup ?_ | refine go_lst ?_ | refine go_fstr ?_ | refine go_Tcmp ?_ | refine go_Tchain ?_ | refine go_TisN ?_ | refine go_Tand ?_ | refine go_Tor ?_ | refine go_Tnot ?_ | refine go_Ttv ?_ | refine go_nil ?_ | refine go_cons ?_ | refine go_Fnil ?_ | refine go_Fcons ?_ | refine go_comp ?_ | refine go_sq ?_ | refine go_enm ?_ | refine go_rng1 ?_ | refine go_for ?_ | refine go_v0 ?_ | refine go_vs ?_ | refine go_add ?_ | refine go_sub ?_ | refine go_int ?_ | refine go_intb ?_ | refine go_abs ?_ | refine go_lent ?_ | refine go_lt ?_ | refine go_le ?_ | refine go_gt ?_ | refine go_ge ?_ | refine go_eqi ?_ | refine go_nei ?_ | refine go_eqs ?_ | refine go_nes ?_ | refine go_tb ?_ | refine go_t ?_ | refine go_f ?_ | (apply go_glo; with_unfolding_all exact rfl) | (apply go_lenl; (first | assumption | exact List.getElem?_set_self (by first | assumption | omega) | exact List.getElem?_concat_length)) | (apply go_lenf; (first | assumption | exact List.getElem?_set_self (by first | assumption | omega) | exact List.getElem?_concat_length)) | (apply go_il; (first | assumption | exact List.getElem?_set_self (by first | assumption | omega) | exact List.getElem?_concat_length); with_unfolding_all exact rfl; with_unfolding_all exact rfl) | (apply go_it; with_unfolding_all exact rfl; with_unfolding_all exact rfl) | (apply go_set; (first | assumption | exact List.getElem?_set_self (by first | assumption | omega) | exact List.getElem?_concat_length); with_unfolding_all exact rfl) | dsimp only [List.set_cons_zero, List.set_cons_succ, set_0, set_s]))
    refine go_mod (by decide) ?_
    repeat (with_reducible (first | refine go_Bnil ?_ | refine go_Bcons ?_ | refine go_asg ?_ | refine go_seti ?_ | refine go_exp ?_ | refine go_ret ?_ | refine go_if ?_ | refine go_var ?_ | refine go_con ?_ | refine go_bin ?_ | refine go_neg ?_ | refine go_cmp ?_ | refine go_chain ?_ | refine go_isN ?_ | refine go_and ?_ | refine go_or ?_ | refine go_not ?_ | refine go_call ?_ | refine go_pr ?_ | refine go_me ?_ | refine go_isi ?_ | refine go_idx ?_ | refine go_sli ?_ | refine go_abs0 ?_ | refine go_tup ?_ | refine go_lst ?_ | refine go_fstr ?_ | refine go_Tcmp ?_ | refine go_Tchain ?_ | refine go_TisN ?_ | refine go_Tand ?_ | refine go_Tor ?_ | refine go_Tnot ?_ | refine go_Ttv ?_ | refine go_nil ?_ | refine go_cons ?_ | refine go_Fnil ?_ | refine go_Fcons ?_ | refine go_comp ?_ | refine go_sq ?_ | refine go_enm ?_ | refine go_rng1 ?_ | refine go_for ?_ | refine go_v0 ?_ | refine go_vs ?_ | refine go_add ?_ | refine go_sub ?_ | refine go_int ?_ | refine go_intb ?_ | refine go_abs ?_ | refine go_lent ?_ | refine go_lt ?_ | refine go_le ?_ | refine go_gt ?_ | refine go_ge ?_ | refine go_eqi ?_ | refine go_nei ?_ | refine go_eqs ?_ | refine go_nes ?_ | refine go_tb ?_ | refine go_t ?_ | refine go_f ?_ | (apply go_glo; with_unfolding_all exact rfl) | (apply go_lenl; (first | assumption | exact List.getElem?_set_self (by first | assumption | omega) | exact List.getElem?_concat_length)) | (apply go_lenf; (first | assumption | exact List.getElem?_set_self (by first | assumption | omega) | exact List.getElem?_concat_length)) | (apply go_il; (first | assumption | exact List.getElem?_set_self (by first | assumption | omega) | exact List.getElem?_concat_length); with_unfolding_all exact rfl; with_unfolding_all exact rfl) | (apply go_it; with_unfolding_all exact rfl; with_unfolding_all exact rfl) | (apply go_set; (first | assumption | exact List.getElem?_set_self (by first | assumption | omega) | exact List.getElem?_concat_length); with_unfolding_all exact rfl) | dsimp only [List.set_cons_zero, List.set_cons_succ, set_0, set_s]))
    have n1 := Int.emod_nonneg ((s + 1) * (7919 * (t + 1) + 104729)) (show (2147483647 : Int) ≠ 0 by decide)
    have n2 := Int.emod_lt_of_pos ((s + 1) * (7919 * (t + 1) + 104729)) (show (0 : Int) < 2147483647 by decide)
    generalize (s + 1) * (7919 * (t + 1) + 104729) % 2147483647 = a at n1 n2 ⊢
    refine go_fdiv (by decide) ?_
    repeat (with_reducible (first | refine go_Bnil ?_ | refine go_Bcons ?_ | refine go_asg ?_ | refine go_seti ?_ | refine go_exp ?_ | refine go_ret ?_ | refine go_if ?_ | refine go_var ?_ | refine go_con ?_ | refine go_bin ?_ | refine go_neg ?_ | refine go_cmp ?_ | refine go_chain ?_ | refine go_isN ?_ | refine go_and ?_ | refine go_or ?_ | refine go_not ?_ | refine go_call ?_ | refine go_pr ?_ | refine go_me ?_ | refine go_isi ?_ | refine go_idx ?_ | refine go_sli ?_ | refine go_abs0 ?_ | refine go_tup ?_ | refine go_lst ?_ | refine go_fstr ?_ | refine go_Tcmp ?_ | refine go_Tchain ?_ | refine go_TisN ?_ | refine go_Tand ?_ | refine go_Tor ?_ | refine go_Tnot ?_ | refine go_Ttv ?_ | refine go_nil ?_ | refine go_cons ?_ | refine go_Fnil ?_ | refine go_Fcons ?_ | refine go_comp ?_ | refine go_sq ?_ | refine go_enm ?_ | refine go_rng1 ?_ | refine go_for ?_ | refine go_v0 ?_ | refine go_vs ?_ | refine go_add ?_ | refine go_sub ?_ | refine go_int ?_ | refine go_intb ?_ | refine go_abs ?_ | refine go_lent ?_ | refine go_lt ?_ | refine go_le ?_ | refine go_gt ?_ | refine go_ge ?_ | refine go_eqi ?_ | refine go_nei ?_ | refine go_eqs ?_ | refine go_nes ?_ | refine go_tb ?_ | refine go_t ?_ | refine go_f ?_ | (apply go_glo; with_unfolding_all exact rfl) | (apply go_lenl; (first | assumption | exact List.getElem?_set_self (by first | assumption | omega) | exact List.getElem?_concat_length)) | (apply go_lenf; (first | assumption | exact List.getElem?_set_self (by first | assumption | omega) | exact List.getElem?_concat_length)) | (apply go_il; (first | assumption | exact List.getElem?_set_self (by first | assumption | omega) | exact List.getElem?_concat_length); with_unfolding_all exact rfl; with_unfolding_all exact rfl) | (apply go_it; with_unfolding_all exact rfl; with_unfolding_all exact rfl) | (apply go_set; (first | assumption | exact List.getElem?_set_self (by first | assumption | omega) | exact List.getElem?_concat_length); with_unfolding_all exact rfl) | dsimp only [List.set_cons_zero, List.set_cons_succ, set_0, set_s]))
    refine go_mul (.inl ⟨by omega, by omega⟩) ?_
    repeat (with_reducible (first | refine go_Bnil ?_ | refine go_Bcons ?_ | refine go_asg ?_ | refine go_seti ?_ | refine go_exp ?_ | refine go_ret ?_ | refine go_if ?_ | refine go_var ?_ | refine go_con ?_ | refine go_bin ?_ | refine go_neg ?_ | refine go_cmp ?_ | refine go_chain ?_ | refine go_isN ?_ | refine go_and ?_ | refine go_or ?_ | refine go_not ?_ | refine go_call ?_ | refine go_pr ?_ | refine go_me ?_ | refine go_isi ?_ | refine go_idx ?_ | refine go_sli ?_ | refine go_abs0 ?_ | refine go_tup ?_ | refine go_lst ?_ | refine go_fstr ?_ | refine go_Tcmp ?_ | refine go_Tchain ?_ | refine go_TisN ?_ | refine go_Tand ?_ | refine go_Tor ?_ | refine go_Tnot ?_ | refine go_Ttv ?_ | refine go_nil ?_ | refine go_cons ?_ | refine go_Fnil ?_ | refine go_Fcons ?_ | refine go_comp ?_ | refine go_sq ?_ | refine go_enm ?_ | refine go_rng1 ?_ | refine go_for ?_ | refine go_v0 ?_ | refine go_vs ?_ | refine go_add ?_ | refine go_sub ?_ | refine go_int ?_ | refine go_intb ?_ | refine go_abs ?_ | refine go_lent ?_ | refine go_lt ?_ | refine go_le ?_ | refine go_gt ?_ | refine go_ge ?_ | refine go_eqi ?_ | refine go_nei ?_ | refine go_eqs ?_ | refine go_nes ?_ | refine go_tb ?_ | refine go_t ?_ | refine go_f ?_ | (apply go_glo; with_unfolding_all exact rfl) | (apply go_lenl; (first | assumption | exact List.getElem?_set_self (by first | assumption | omega) | exact List.getElem?_concat_length)) | (apply go_lenf; (first | assumption | exact List.getElem?_set_self (by first | assumption | omega) | exact List.getElem?_concat_length)) | (apply go_il; (first | assumption | exact List.getElem?_set_self (by first | assumption | omega) | exact List.getElem?_concat_length); with_unfolding_all exact rfl; with_unfolding_all exact rfl) | (apply go_it; with_unfolding_all exact rfl; with_unfolding_all exact rfl) | (apply go_set; (first | assumption | exact List.getElem?_set_self (by first | assumption | omega) | exact List.getElem?_concat_length); with_unfolding_all exact rfl) | dsimp only [List.set_cons_zero, List.set_cons_succ, set_0, set_s]))
    refine go_mod (by decide) ?_
    repeat (with_reducible (first | refine go_Bnil ?_ | refine go_Bcons ?_ | refine go_asg ?_ | refine go_seti ?_ | refine go_exp ?_ | refine go_ret ?_ | refine go_if ?_ | refine go_var ?_ | refine go_con ?_ | refine go_bin ?_ | refine go_neg ?_ | refine go_cmp ?_ | refine go_chain ?_ | refine go_isN ?_ | refine go_and ?_ | refine go_or ?_ | refine go_not ?_ | refine go_call ?_ | refine go_pr ?_ | refine go_me ?_ | refine go_isi ?_ | refine go_idx ?_ | refine go_sli ?_ | refine go_abs0 ?_ | refine go_tup ?_ | refine go_lst ?_ | refine go_fstr ?_ | refine go_Tcmp ?_ | refine go_Tchain ?_ | refine go_TisN ?_ | refine go_Tand ?_ | refine go_Tor ?_ | refine go_Tnot ?_ | refine go_Ttv ?_ | refine go_nil ?_ | refine go_cons ?_ | refine go_Fnil ?_ | refine go_Fcons ?_ | refine go_comp ?_ | refine go_sq ?_ | refine go_enm ?_ | refine go_rng1 ?_ | refine go_for ?_ | refine go_v0 ?_ | refine go_vs ?_ | refine go_add ?_ | refine go_sub ?_ | refine go_int ?_ | refine go_intb ?_ | refine go_abs ?_ | refine go_lent ?_ | refine go_lt ?_ | refine go_le ?_ | refine go_gt ?_ | refine go_ge ?_ | refine go_eqi ?_ | refine go_nei ?_ | refine go_eqs ?_ | refine go_nes ?_ | refine go_tb ?_ | refine go_t ?_ | refine go_f ?_ | (apply go_glo; with_unfolding_all exact rfl) | (apply go_lenl; (first | assumption | exact List.getElem?_set_self (by first | assumption | omega) | exact List.getElem?_concat_length)) | (apply go_lenf; (first | assumption | exact List.getElem?_set_self (by first | assumption | omega) | exact List.getElem?_concat_length)) | (apply go_il; (first | assumption | exact List.getElem?_set_self (by first | assumption | omega) | exact List.getElem?_concat_length); with_unfolding_all exact rfl; with_unfolding_all exact rfl) | (apply go_it; with_unfolding_all exact rfl; with_unfolding_all exact rfl) | (apply go_set; (first | assumption | exact List.getElem?_set_self (by first | assumption | omega) | exact List.getElem?_concat_length); with_unfolding_all exact rfl) | dsimp only [List.set_cons_zero, List.set_cons_succ, set_0, set_s]))
    have n3 := Int.emod_nonneg (a * (a / 1009 + 69621)) (show (2147483647 : Int) ≠ 0 by decide)
    have n4 := Int.emod_lt_of_pos (a * (a / 1009 + 69621)) (show (0 : Int) < 2147483647 by decide)
    generalize a * (a / 1009 + 69621) % 2147483647 = b at n3 n4 ⊢
    refine go_fdiv (by decide) ?_
    repeat (with_reducible (first | refine go_Bnil ?_ | refine go_Bcons ?_ | refine go_asg ?_ | refine go_seti ?_ | refine go_exp ?_ | refine go_ret ?_ | refine go_if ?_ | refine go_var ?_ | refine go_con ?_ | refine go_bin ?_ | refine go_neg ?_ | refine go_cmp ?_ | refine go_chain ?_ | refine go_isN ?_ | refine go_and ?_ | refine go_or ?_ | refine go_not ?_ | refine go_call ?_ | refine go_pr ?_ | refine go_me ?_ | refine go_isi ?_ | refine go_idx ?_ | refine go_sli ?_ | refine go_abs0 ?_ | refine go_tup ?_ | refine go_lst ?_ | refine go_fstr ?_ | refine go_Tcmp ?_ | refine go_Tchain ?_ | refine go_TisN ?_ | refine go_Tand ?_ | refine go_Tor ?_ | refine go_Tnot ?_ | refine go_Ttv ?_ | refine go_nil ?_ | refine go_cons ?_ | refine go_Fnil ?_ | refine go_Fcons ?_ | refine go_comp ?_ | refine go_sq ?_ | refine go_enm ?_ | refine go_rng1 ?_ | refine go_for ?_ | refine go_v0 ?_ | refine go_vs ?_ | refine go_add ?_ | refine go_sub ?_ | refine go_int ?_ | refine go_intb ?_ | refine go_abs ?_ | refine go_lent ?_ | refine go_lt ?_ | refine go_le ?_ | refine go_gt ?_ | refine go_ge ?_ | refine go_eqi ?_ | refine go_nei ?_ | refine go_eqs ?_ | refine go_nes ?_ | refine go_tb ?_ | refine go_t ?_ | refine go_f ?_ | (apply go_glo; with_unfolding_all exact rfl) | (apply go_lenl; (first | assumption | exact List.getElem?_set_self (by first | assumption | omega) | exact List.getElem?_concat_length)) | (apply go_lenf; (first | assumption | exact List.getElem?_set_self (by first | assumption | omega) | exact List.getElem?_concat_length)) | (apply go_il; (first | assumption | exact List.getElem?_set_self (by first | assumption | omega) | exact List.getElem?_concat_length); with_unfolding_all exact rfl; with_unfolding_all exact rfl) | (apply go_it; with_unfolding_all exact rfl; with_unfolding_all exact rfl) | (apply go_set; (first | assumption | exact List.getElem?_set_self (by first | assumption | omega) | exact List.getElem?_concat_length); with_unfolding_all exact rfl) | dsimp only [List.set_cons_zero, List.set_cons_succ, set_0, set_s]))
    refine go_mul (.inl ⟨by omega, by omega⟩) ?_
    repeat (with_reducible (first | refine go_Bnil ?_ | refine go_Bcons ?_ | refine go_asg ?_ | refine go_seti ?_ | refine go_exp ?_ | refine go_ret ?_ | refine go_if ?_ | refine go_var ?_ | refine go_con ?_ | refine go_bin ?_ | refine go_neg ?_ | refine go_cmp ?_ | refine go_chain ?_ | refine go_isN ?_ | refine go_and ?_ | refine go_or ?_ | refine go_not ?_ | refine go_call ?_ | refine go_pr ?_ | refine go_me ?_ | refine go_isi ?_ | refine go_idx ?_ | refine go_sli ?_ | refine go_abs0 ?_ | refine go_tup ?_ | refine go_lst ?_ | refine go_fstr ?_ | refine go_Tcmp ?_ | refine go_Tchain ?_ | refine go_TisN ?_ | refine go_Tand ?_ | refine go_Tor ?_ | refine go_Tnot ?_ | refine go_Ttv ?_ | refine go_nil ?_ | refine go_cons ?_ | refine go_Fnil ?_ | refine go_Fcons ?_ | refine go_comp ?_ | refine go_sq ?_ | refine go_enm ?_ | refine go_rng1 ?_ | refine go_for ?_ | refine go_v0 ?_ | refine go_vs ?_ | refine go_add ?_ | refine go_sub ?_ | refine go_int ?_ | refine go_intb ?_ | refine go_abs ?_ | refine go_lent ?_ | refine go_lt ?_ | refine go_le ?_ | refine go_gt ?_ | refine go_ge ?_ | refine go_eqi ?_ | refine go_nei ?_ | refine go_eqs ?_ | refine go_nes ?_ | refine go_tb ?_ | refine go_t ?_ | refine go_f ?_ | (apply go_glo; with_unfolding_all exact rfl) | (apply go_lenl; (first | assumption | exact List.getElem?_set_self (by first | assumption | omega) | exact List.getElem?_concat_length)) | (apply go_lenf; (first | assumption | exact List.getElem?_set_self (by first | assumption | omega) | exact List.getElem?_concat_length)) | (apply go_il; (first | assumption | exact List.getElem?_set_self (by first | assumption | omega) | exact List.getElem?_concat_length); with_unfolding_all exact rfl; with_unfolding_all exact rfl) | (apply go_it; with_unfolding_all exact rfl; with_unfolding_all exact rfl) | (apply go_set; (first | assumption | exact List.getElem?_set_self (by first | assumption | omega) | exact List.getElem?_concat_length); with_unfolding_all exact rfl) | dsimp only [List.set_cons_zero, List.set_cons_succ, set_0, set_s]))
    refine go_mod (by decide) ?_
    repeat (with_reducible (first | refine go_Bnil ?_ | refine go_Bcons ?_ | refine go_asg ?_ | refine go_seti ?_ | refine go_exp ?_ | refine go_ret ?_ | refine go_if ?_ | refine go_var ?_ | refine go_con ?_ | refine go_bin ?_ | refine go_neg ?_ | refine go_cmp ?_ | refine go_chain ?_ | refine go_isN ?_ | refine go_and ?_ | refine go_or ?_ | refine go_not ?_ | refine go_call ?_ | refine go_pr ?_ | refine go_me ?_ | refine go_isi ?_ | refine go_idx ?_ | refine go_sli ?_ | refine go_abs0 ?_ | refine go_tup ?_ | refine go_lst ?_ | refine go_fstr ?_ | refine go_Tcmp ?_ | refine go_Tchain ?_ | refine go_TisN ?_ | refine go_Tand ?_ | refine go_Tor ?_ | refine go_Tnot ?_ | refine go_Ttv ?_ | refine go_nil ?_ | refine go_cons ?_ | refine go_Fnil ?_ | refine go_Fcons ?_ | refine go_comp ?_ | refine go_sq ?_ | refine go_enm ?_ | refine go_rng1 ?_ | refine go_for ?_ | refine go_v0 ?_ | refine go_vs ?_ | refine go_add ?_ | refine go_sub ?_ | refine go_int ?_ | refine go_intb ?_ | refine go_abs ?_ | refine go_lent ?_ | refine go_lt ?_ | refine go_le ?_ | refine go_gt ?_ | refine go_ge ?_ | refine go_eqi ?_ | refine go_nei ?_ | refine go_eqs ?_ | refine go_nes ?_ | refine go_tb ?_ | refine go_t ?_ | refine go_f ?_ | (apply go_glo; with_unfolding_all exact rfl) | (apply go_lenl; (first | assumption | exact List.getElem?_set_self (by first | assumption | omega) | exact List.getElem?_concat_length)) | (apply go_lenf; (first | assumption | exact List.getElem?_set_self (by first | assumption | omega) | exact List.getElem?_concat_length)) | (apply go_il; (first | assumption | exact List.getElem?_set_self (by first | assumption | omega) | exact List.getElem?_concat_length); with_unfolding_all exact rfl; with_unfolding_all exact rfl) | (apply go_it; with_unfolding_all exact rfl; with_unfolding_all exact rfl) | (apply go_set; (first | assumption | exact List.getElem?_set_self (by first | assumption | omega) | exact List.getElem?_concat_length); with_unfolding_all exact rfl) | dsimp only [List.set_cons_zero, List.set_cons_succ, set_0, set_s]))
    have n5 := Int.emod_nonneg (b * (b / 2003 + 40692)) (show (2147483399 : Int) ≠ 0 by decide)
    generalize b * (b / 2003 + 40692) % 2147483399 = c2 at n5 ⊢
    refine go_fdiv (by decide) ?_
    repeat (with_reducible (first | refine go_Bnil ?_ | refine go_Bcons ?_ | refine go_asg ?_ | refine go_seti ?_ | refine go_exp ?_ | refine go_ret ?_ | refine go_if ?_ | refine go_var ?_ | refine go_con ?_ | refine go_bin ?_ | refine go_neg ?_ | refine go_cmp ?_ | refine go_chain ?_ | refine go_isN ?_ | refine go_and ?_ | refine go_or ?_ | refine go_not ?_ | refine go_call ?_ | refine go_pr ?_ | refine go_me ?_ | refine go_isi ?_ | refine go_idx ?_ | refine go_sli ?_ | refine go_abs0 ?_ | refine go_tup ?_ | refine go_lst ?_ | refine go_fstr ?_ | refine go_Tcmp ?_ | refine go_Tchain ?_ | refine go_TisN ?_ | refine go_Tand ?_ | refine go_Tor ?_ | refine go_Tnot ?_ | refine go_Ttv ?_ | refine go_nil ?_ | refine go_cons ?_ | refine go_Fnil ?_ | refine go_Fcons ?_ | refine go_comp ?_ | refine go_sq ?_ | refine go_enm ?_ | refine go_rng1 ?_ | refine go_for ?_ | refine go_v0 ?_ | refine go_vs ?_ | refine go_add ?_ | refine go_sub ?_ | refine go_int ?_ | refine go_intb ?_ | refine go_abs ?_ | refine go_lent ?_ | refine go_lt ?_ | refine go_le ?_ | refine go_gt ?_ | refine go_ge ?_ | refine go_eqi ?_ | refine go_nei ?_ | refine go_eqs ?_ | refine go_nes ?_ | refine go_tb ?_ | refine go_t ?_ | refine go_f ?_ | (apply go_glo; with_unfolding_all exact rfl) | (apply go_lenl; (first | assumption | exact List.getElem?_set_self (by first | assumption | omega) | exact List.getElem?_concat_length)) | (apply go_lenf; (first | assumption | exact List.getElem?_set_self (by first | assumption | omega) | exact List.getElem?_concat_length)) | (apply go_il; (first | assumption | exact List.getElem?_set_self (by first | assumption | omega) | exact List.getElem?_concat_length); with_unfolding_all exact rfl; with_unfolding_all exact rfl) | (apply go_it; with_unfolding_all exact rfl; with_unfolding_all exact rfl) | (apply go_set; (first | assumption | exact List.getElem?_set_self (by first | assumption | omega) | exact List.getElem?_concat_length); with_unfolding_all exact rfl) | dsimp only [List.set_cons_zero, List.set_cons_succ, set_0, set_s]))
    refine go_mod hm ?_
    repeat (with_reducible (first | refine go_Bnil ?_ | refine go_Bcons ?_ | refine go_asg ?_ | refine go_seti ?_ | refine go_exp ?_ | refine go_ret ?_ | refine go_if ?_ | refine go_var ?_ | refine go_con ?_ | refine go_bin ?_ | refine go_neg ?_ | refine go_cmp ?_ | refine go_chain ?_ | refine go_isN ?_ | refine go_and ?_ | refine go_or ?_ | refine go_not ?_ | refine go_call ?_ | refine go_pr ?_ | refine go_me ?_ | refine go_isi ?_ | refine go_idx ?_ | refine go_sli ?_ | refine go_abs0 ?_ | refine go_tup ?_ | refine go_lst ?_ | refine go_fstr ?_ | refine go_Tcmp ?_ | refine go_Tchain ?_ | refine go_TisN ?_ | refine go_Tand ?_ | refine go_Tor ?_ | refine go_Tnot ?_ | refine go_Ttv ?_ | refine go_nil ?_ | refine go_cons ?_ | refine go_Fnil ?_ | refine go_Fcons ?_ | refine go_comp ?_ | refine go_sq ?_ | refine go_enm ?_ | refine go_rng1 ?_ | refine go_for ?_ | refine go_v0 ?_ | refine go_vs ?_ | refine go_add ?_ | refine go_sub ?_ | refine go_int ?_ | refine go_intb ?_ | refine go_abs ?_ | refine go_lent ?_ | refine go_lt ?_ | refine go_le ?_ | refine go_gt ?_ | refine go_ge ?_ | refine go_eqi ?_ | refine go_nei ?_ | refine go_eqs ?_ | refine go_nes ?_ | refine go_tb ?_ | refine go_t ?_ | refine go_f ?_ | (apply go_glo; with_unfolding_all exact rfl) | (apply go_lenl; (first | assumption | exact List.getElem?_set_self (by first | assumption | omega) | exact List.getElem?_concat_length)) | (apply go_lenf; (first | assumption | exact List.getElem?_set_self (by first | assumption | omega) | exact List.getElem?_concat_length)) | (apply go_il; (first | assumption | exact List.getElem?_set_self (by first | assumption | omega) | exact List.getElem?_concat_length); with_unfolding_all exact rfl; with_unfolding_all exact rfl) | (apply go_it; with_unfolding_all exact rfl; with_unfolding_all exact rfl) | (apply go_set; (first | assumption | exact List.getElem?_set_self (by first | assumption | omega) | exact List.getElem?_concat_length); with_unfolding_all exact rfl) | dsimp only [List.set_cons_zero, List.set_cons_succ, set_0, set_s]))
    exact hq _ _ (Int.emod_nonneg _ (by omega)) (Int.emod_lt_of_pos _ hm) (by simp) (up _ _ _ hc0 hs hs2)
theorem pool {k : Nat} {i : Int} {ns : List Int} {st : Store} {Q : QE} {X : QX} (h0 : st[0]? = some (.fro (ns.map D.int))) (hl : ns.length ≤ 63) (hi : 0 ≤ i ∧ i ≤ 2) (hq : ∀ st', Pool st.length (st ++ [st']) → Q (.ref st.length) (st ++ [st'])) : Call T (k + 1) 15 [.ref 0, .int i] st Q X := by
  refine call_go f__law_pool.fn rfl rfl ?_
  show wpB T (Call T k) none b__law_pool [some (.ref 0), some (.int i), none, none] st _
  unfold b__law_pool
  have mk : ∀ c s : Int, 0 ≤ c → 0 ≤ s → s < 2 ^ 40 → Q (.ref st.length) (st ++ [.lst [.int c, .int s, .int 0]]) := fun c s h1 h2 h3 => hq _ ⟨c, s, 0, List.getElem?_concat_length, h1, h2, h3⟩
  repeat (with_reducible (first | refine go_Bnil ?_ | refine go_Bcons ?_ | refine go_asg ?_ | refine go_seti ?_ | refine go_exp ?_ | refine go_ret ?_ | refine go_if ?_ | refine go_var ?_ | refine go_con ?_ | refine go_bin ?_ | refine go_neg ?_ | refine go_cmp ?_ | refine go_chain ?_ | refine go_isN ?_ | refine go_and ?_ | refine go_or ?_ | refine go_not ?_ | refine go_call ?_ | refine go_pr ?_ | refine go_me ?_ | refine go_isi ?_ | refine go_idx ?_ | refine go_sli ?_ | refine go_abs0 ?_ | refine go_tup ?_ | refine go_lst ?_ | refine go_fstr ?_ | refine go_Tcmp ?_ | refine go_Tchain ?_ | refine go_TisN ?_ | refine go_Tand ?_ | refine go_Tor ?_ | refine go_Tnot ?_ | refine go_Ttv ?_ | refine go_nil ?_ | refine go_cons ?_ | refine go_Fnil ?_ | refine go_Fcons ?_ | refine go_comp ?_ | refine go_sq ?_ | refine go_enm ?_ | refine go_rng1 ?_ | refine go_for ?_ | refine go_v0 ?_ | refine go_vs ?_ | refine go_add ?_ | refine go_sub ?_ | refine go_int ?_ | refine go_intb ?_ | refine go_abs ?_ | refine go_lent ?_ | refine go_lt ?_ | refine go_le ?_ | refine go_gt ?_ | refine go_ge ?_ | refine go_eqi ?_ | refine go_nei ?_ | refine go_eqs ?_ | refine go_nes ?_ | refine go_tb ?_ | refine go_t ?_ | refine go_f ?_ | (apply go_glo; with_unfolding_all exact rfl) | (apply go_lenl; (first | assumption | exact List.getElem?_set_self (by first | assumption | omega) | exact List.getElem?_concat_length)) | (apply go_lenf; (first | assumption | exact List.getElem?_set_self (by first | assumption | omega) | exact List.getElem?_concat_length)) | (apply go_il; (first | assumption | exact List.getElem?_set_self (by first | assumption | omega) | exact List.getElem?_concat_length); with_unfolding_all exact rfl; with_unfolding_all exact rfl) | (apply go_it; with_unfolding_all exact rfl; with_unfolding_all exact rfl) | (apply go_set; (first | assumption | exact List.getElem?_set_self (by first | assumption | omega) | exact List.getElem?_concat_length); with_unfolding_all exact rfl) | dsimp only [List.set_cons_zero, List.set_cons_succ, set_0, set_s]))
  refine go_dc (fun hc => ?_) (fun hc => ?_)
  · repeat (with_reducible (first | refine go_Bnil ?_ | refine go_Bcons ?_ | refine go_asg ?_ | refine go_seti ?_ | refine go_exp ?_ | refine go_ret ?_ | refine go_if ?_ | refine go_var ?_ | refine go_con ?_ | refine go_bin ?_ | refine go_neg ?_ | refine go_cmp ?_ | refine go_chain ?_ | refine go_isN ?_ | refine go_and ?_ | refine go_or ?_ | refine go_not ?_ | refine go_call ?_ | refine go_pr ?_ | refine go_me ?_ | refine go_isi ?_ | refine go_idx ?_ | refine go_sli ?_ | refine go_abs0 ?_ | refine go_tup ?_ | refine go_lst ?_ | refine go_fstr ?_ | refine go_Tcmp ?_ | refine go_Tchain ?_ | refine go_TisN ?_ | refine go_Tand ?_ | refine go_Tor ?_ | refine go_Tnot ?_ | refine go_Ttv ?_ | refine go_nil ?_ | refine go_cons ?_ | refine go_Fnil ?_ | refine go_Fcons ?_ | refine go_comp ?_ | refine go_sq ?_ | refine go_enm ?_ | refine go_rng1 ?_ | refine go_for ?_ | refine go_v0 ?_ | refine go_vs ?_ | refine go_add ?_ | refine go_sub ?_ | refine go_int ?_ | refine go_intb ?_ | refine go_abs ?_ | refine go_lent ?_ | refine go_lt ?_ | refine go_le ?_ | refine go_gt ?_ | refine go_ge ?_ | refine go_eqi ?_ | refine go_nei ?_ | refine go_eqs ?_ | refine go_nes ?_ | refine go_tb ?_ | refine go_t ?_ | refine go_f ?_ | (apply go_glo; with_unfolding_all exact rfl) | (apply go_lenl; (first | assumption | exact List.getElem?_set_self (by first | assumption | omega) | exact List.getElem?_concat_length)) | (apply go_lenf; (first | assumption | exact List.getElem?_set_self (by first | assumption | omega) | exact List.getElem?_concat_length)) | (apply go_il; (first | assumption | exact List.getElem?_set_self (by first | assumption | omega) | exact List.getElem?_concat_length); with_unfolding_all exact rfl; with_unfolding_all exact rfl) | (apply go_it; with_unfolding_all exact rfl; with_unfolding_all exact rfl) | (apply go_set; (first | assumption | exact List.getElem?_set_self (by first | assumption | omega) | exact List.getElem?_concat_length); with_unfolding_all exact rfl) | dsimp only [List.set_cons_zero, List.set_cons_succ, set_0, set_s]))
    refine go_mul (.inl ⟨by decide, by decide⟩) ?_
    repeat (with_reducible (first | refine go_Bnil ?_ | refine go_Bcons ?_ | refine go_asg ?_ | refine go_seti ?_ | refine go_exp ?_ | refine go_ret ?_ | refine go_if ?_ | refine go_var ?_ | refine go_con ?_ | refine go_bin ?_ | refine go_neg ?_ | refine go_cmp ?_ | refine go_chain ?_ | refine go_isN ?_ | refine go_and ?_ | refine go_or ?_ | refine go_not ?_ | refine go_call ?_ | refine go_pr ?_ | refine go_me ?_ | refine go_isi ?_ | refine go_idx ?_ | refine go_sli ?_ | refine go_abs0 ?_ | refine go_tup ?_ | refine go_lst ?_ | refine go_fstr ?_ | refine go_Tcmp ?_ | refine go_Tchain ?_ | refine go_TisN ?_ | refine go_Tand ?_ | refine go_Tor ?_ | refine go_Tnot ?_ | refine go_Ttv ?_ | refine go_nil ?_ | refine go_cons ?_ | refine go_Fnil ?_ | refine go_Fcons ?_ | refine go_comp ?_ | refine go_sq ?_ | refine go_enm ?_ | refine go_rng1 ?_ | refine go_for ?_ | refine go_v0 ?_ | refine go_vs ?_ | refine go_add ?_ | refine go_sub ?_ | refine go_int ?_ | refine go_intb ?_ | refine go_abs ?_ | refine go_lent ?_ | refine go_lt ?_ | refine go_le ?_ | refine go_gt ?_ | refine go_ge ?_ | refine go_eqi ?_ | refine go_nei ?_ | refine go_eqs ?_ | refine go_nes ?_ | refine go_tb ?_ | refine go_t ?_ | refine go_f ?_ | (apply go_glo; with_unfolding_all exact rfl) | (apply go_lenl; (first | assumption | exact List.getElem?_set_self (by first | assumption | omega) | exact List.getElem?_concat_length)) | (apply go_lenf; (first | assumption | exact List.getElem?_set_self (by first | assumption | omega) | exact List.getElem?_concat_length)) | (apply go_il; (first | assumption | exact List.getElem?_set_self (by first | assumption | omega) | exact List.getElem?_concat_length); with_unfolding_all exact rfl; with_unfolding_all exact rfl) | (apply go_it; with_unfolding_all exact rfl; with_unfolding_all exact rfl) | (apply go_set; (first | assumption | exact List.getElem?_set_self (by first | assumption | omega) | exact List.getElem?_concat_length); with_unfolding_all exact rfl) | dsimp only [List.set_cons_zero, List.set_cons_succ, set_0, set_s]))
    exact mk _ _ (by omega) (by omega) (by omega)
  · repeat (with_reducible (first | refine go_Bnil ?_ | refine go_Bcons ?_ | refine go_asg ?_ | refine go_seti ?_ | refine go_exp ?_ | refine go_ret ?_ | refine go_if ?_ | refine go_var ?_ | refine go_con ?_ | refine go_bin ?_ | refine go_neg ?_ | refine go_cmp ?_ | refine go_chain ?_ | refine go_isN ?_ | refine go_and ?_ | refine go_or ?_ | refine go_not ?_ | refine go_call ?_ | refine go_pr ?_ | refine go_me ?_ | refine go_isi ?_ | refine go_idx ?_ | refine go_sli ?_ | refine go_abs0 ?_ | refine go_tup ?_ | refine go_lst ?_ | refine go_fstr ?_ | refine go_Tcmp ?_ | refine go_Tchain ?_ | refine go_TisN ?_ | refine go_Tand ?_ | refine go_Tor ?_ | refine go_Tnot ?_ | refine go_Ttv ?_ | refine go_nil ?_ | refine go_cons ?_ | refine go_Fnil ?_ | refine go_Fcons ?_ | refine go_comp ?_ | refine go_sq ?_ | refine go_enm ?_ | refine go_rng1 ?_ | refine go_for ?_ | refine go_v0 ?_ | refine go_vs ?_ | refine go_add ?_ | refine go_sub ?_ | refine go_int ?_ | refine go_intb ?_ | refine go_abs ?_ | refine go_lent ?_ | refine go_lt ?_ | refine go_le ?_ | refine go_gt ?_ | refine go_ge ?_ | refine go_eqi ?_ | refine go_nei ?_ | refine go_eqs ?_ | refine go_nes ?_ | refine go_tb ?_ | refine go_t ?_ | refine go_f ?_ | (apply go_glo; with_unfolding_all exact rfl) | (apply go_lenl; (first | assumption | exact List.getElem?_set_self (by first | assumption | omega) | exact List.getElem?_concat_length)) | (apply go_lenf; (first | assumption | exact List.getElem?_set_self (by first | assumption | omega) | exact List.getElem?_concat_length)) | (apply go_il; (first | assumption | exact List.getElem?_set_self (by first | assumption | omega) | exact List.getElem?_concat_length); with_unfolding_all exact rfl; with_unfolding_all exact rfl) | (apply go_it; with_unfolding_all exact rfl; with_unfolding_all exact rfl) | (apply go_set; (first | assumption | exact List.getElem?_set_self (by first | assumption | omega) | exact List.getElem?_concat_length); with_unfolding_all exact rfl) | dsimp only [List.set_cons_zero, List.set_cons_succ, set_0, set_s]))
    have hn : 0 < ((ns.map D.int).length : Int) := by
      have : (ns.map D.int).length ≠ 0 := fun z => hc (by rw [z]; rfl)
      omega
    refine go_mod hn ?_
    have im := Int.emod_lt_of_pos i hn
    have im0 := Int.emod_nonneg i (show ((ns.map D.int).length : Int) ≠ 0 by omega)
    obtain ⟨j, hj⟩ := Int.eq_ofNat_of_zero_le im0
    have jl : j < ns.length := by
      rw [hj, List.length_map] at im
      omega
    have look : ∀ {Q : QE}, Q (.int ns[j]) st → idxQ T st (.ref 0) (.int (i % ((ns.map D.int).length : Int))) Q := fun {Q} q => by
      refine go_if_ h0 (j := j) (c := .int ns[j]) ?_ ?_ q
      · unfold ixOf
        rw [if_pos im0, if_pos im, hj]
        rfl
      · rw [List.getElem?_map, List.getElem?_eq_getElem jl]
        rfl
    refine look ?_
    repeat (with_reducible (first | refine go_Bnil ?_ | refine go_Bcons ?_ | refine go_asg ?_ | refine go_seti ?_ | refine go_exp ?_ | refine go_ret ?_ | refine go_if ?_ | refine go_var ?_ | refine go_con ?_ | refine go_bin ?_ | refine go_neg ?_ | refine go_cmp ?_ | refine go_chain ?_ | refine go_isN ?_ | refine go_and ?_ | refine go_or ?_ | refine go_not ?_ | refine go_call ?_ | refine go_pr ?_ | refine go_me ?_ | refine go_isi ?_ | refine go_idx ?_ | refine go_sli ?_ | refine go_abs0 ?_ | refine go_tup ?_ | refine go_lst ?_ | refine go_fstr ?_ | refine go_Tcmp ?_ | refine go_Tchain ?_ | refine go_TisN ?_ | refine go_Tand ?_ | refine go_Tor ?_ | refine go_Tnot ?_ | refine go_Ttv ?_ | refine go_nil ?_ | refine go_cons ?_ | refine go_Fnil ?_ | refine go_Fcons ?_ | refine go_comp ?_ | refine go_sq ?_ | refine go_enm ?_ | refine go_rng1 ?_ | refine go_for ?_ | refine go_v0 ?_ | refine go_vs ?_ | refine go_add ?_ | refine go_sub ?_ | refine go_int ?_ | refine go_intb ?_ | refine go_abs ?_ | refine go_lent ?_ | refine go_lt ?_ | refine go_le ?_ | refine go_gt ?_ | refine go_ge ?_ | refine go_eqi ?_ | refine go_nei ?_ | refine go_eqs ?_ | refine go_nes ?_ | refine go_tb ?_ | refine go_t ?_ | refine go_f ?_ | (apply go_glo; with_unfolding_all exact rfl) | (apply go_lenl; (first | assumption | exact List.getElem?_set_self (by first | assumption | omega) | exact List.getElem?_concat_length)) | (apply go_lenf; (first | assumption | exact List.getElem?_set_self (by first | assumption | omega) | exact List.getElem?_concat_length)) | (apply go_il; (first | assumption | exact List.getElem?_set_self (by first | assumption | omega) | exact List.getElem?_concat_length); with_unfolding_all exact rfl; with_unfolding_all exact rfl) | (apply go_it; with_unfolding_all exact rfl; with_unfolding_all exact rfl) | (apply go_set; (first | assumption | exact List.getElem?_set_self (by first | assumption | omega) | exact List.getElem?_concat_length); with_unfolding_all exact rfl) | dsimp only [List.set_cons_zero, List.set_cons_succ, set_0, set_s]))
    refine go_mod (by decide) ?_
    repeat (with_reducible (first | refine go_Bnil ?_ | refine go_Bcons ?_ | refine go_asg ?_ | refine go_seti ?_ | refine go_exp ?_ | refine go_ret ?_ | refine go_if ?_ | refine go_var ?_ | refine go_con ?_ | refine go_bin ?_ | refine go_neg ?_ | refine go_cmp ?_ | refine go_chain ?_ | refine go_isN ?_ | refine go_and ?_ | refine go_or ?_ | refine go_not ?_ | refine go_call ?_ | refine go_pr ?_ | refine go_me ?_ | refine go_isi ?_ | refine go_idx ?_ | refine go_sli ?_ | refine go_abs0 ?_ | refine go_tup ?_ | refine go_lst ?_ | refine go_fstr ?_ | refine go_Tcmp ?_ | refine go_Tchain ?_ | refine go_TisN ?_ | refine go_Tand ?_ | refine go_Tor ?_ | refine go_Tnot ?_ | refine go_Ttv ?_ | refine go_nil ?_ | refine go_cons ?_ | refine go_Fnil ?_ | refine go_Fcons ?_ | refine go_comp ?_ | refine go_sq ?_ | refine go_enm ?_ | refine go_rng1 ?_ | refine go_for ?_ | refine go_v0 ?_ | refine go_vs ?_ | refine go_add ?_ | refine go_sub ?_ | refine go_int ?_ | refine go_intb ?_ | refine go_abs ?_ | refine go_lent ?_ | refine go_lt ?_ | refine go_le ?_ | refine go_gt ?_ | refine go_ge ?_ | refine go_eqi ?_ | refine go_nei ?_ | refine go_eqs ?_ | refine go_nes ?_ | refine go_tb ?_ | refine go_t ?_ | refine go_f ?_ | (apply go_glo; with_unfolding_all exact rfl) | (apply go_lenl; (first | assumption | exact List.getElem?_set_self (by first | assumption | omega) | exact List.getElem?_concat_length)) | (apply go_lenf; (first | assumption | exact List.getElem?_set_self (by first | assumption | omega) | exact List.getElem?_concat_length)) | (apply go_il; (first | assumption | exact List.getElem?_set_self (by first | assumption | omega) | exact List.getElem?_concat_length); with_unfolding_all exact rfl; with_unfolding_all exact rfl) | (apply go_it; with_unfolding_all exact rfl; with_unfolding_all exact rfl) | (apply go_set; (first | assumption | exact List.getElem?_set_self (by first | assumption | omega) | exact List.getElem?_concat_length); with_unfolding_all exact rfl) | dsimp only [List.set_cons_zero, List.set_cons_succ, set_0, set_s]))
    refine go_mul (.inl ⟨by decide, by decide⟩) ?_
    repeat (with_reducible (first | refine go_Bnil ?_ | refine go_Bcons ?_ | refine go_asg ?_ | refine go_seti ?_ | refine go_exp ?_ | refine go_ret ?_ | refine go_if ?_ | refine go_var ?_ | refine go_con ?_ | refine go_bin ?_ | refine go_neg ?_ | refine go_cmp ?_ | refine go_chain ?_ | refine go_isN ?_ | refine go_and ?_ | refine go_or ?_ | refine go_not ?_ | refine go_call ?_ | refine go_pr ?_ | refine go_me ?_ | refine go_isi ?_ | refine go_idx ?_ | refine go_sli ?_ | refine go_abs0 ?_ | refine go_tup ?_ | refine go_lst ?_ | refine go_fstr ?_ | refine go_Tcmp ?_ | refine go_Tchain ?_ | refine go_TisN ?_ | refine go_Tand ?_ | refine go_Tor ?_ | refine go_Tnot ?_ | refine go_Ttv ?_ | refine go_nil ?_ | refine go_cons ?_ | refine go_Fnil ?_ | refine go_Fcons ?_ | refine go_comp ?_ | refine go_sq ?_ | refine go_enm ?_ | refine go_rng1 ?_ | refine go_for ?_ | refine go_v0 ?_ | refine go_vs ?_ | refine go_add ?_ | refine go_sub ?_ | refine go_int ?_ | refine go_intb ?_ | refine go_abs ?_ | refine go_lent ?_ | refine go_lt ?_ | refine go_le ?_ | refine go_gt ?_ | refine go_ge ?_ | refine go_eqi ?_ | refine go_nei ?_ | refine go_eqs ?_ | refine go_nes ?_ | refine go_tb ?_ | refine go_t ?_ | refine go_f ?_ | (apply go_glo; with_unfolding_all exact rfl) | (apply go_lenl; (first | assumption | exact List.getElem?_set_self (by first | assumption | omega) | exact List.getElem?_concat_length)) | (apply go_lenf; (first | assumption | exact List.getElem?_set_self (by first | assumption | omega) | exact List.getElem?_concat_length)) | (apply go_il; (first | assumption | exact List.getElem?_set_self (by first | assumption | omega) | exact List.getElem?_concat_length); with_unfolding_all exact rfl; with_unfolding_all exact rfl) | (apply go_it; with_unfolding_all exact rfl; with_unfolding_all exact rfl) | (apply go_set; (first | assumption | exact List.getElem?_set_self (by first | assumption | omega) | exact List.getElem?_concat_length); with_unfolding_all exact rfl) | dsimp only [List.set_cons_zero, List.set_cons_succ, set_0, set_s]))
    refine go_mod hn ?_
    refine look ?_
    repeat (with_reducible (first | refine go_Bnil ?_ | refine go_Bcons ?_ | refine go_asg ?_ | refine go_seti ?_ | refine go_exp ?_ | refine go_ret ?_ | refine go_if ?_ | refine go_var ?_ | refine go_con ?_ | refine go_bin ?_ | refine go_neg ?_ | refine go_cmp ?_ | refine go_chain ?_ | refine go_isN ?_ | refine go_and ?_ | refine go_or ?_ | refine go_not ?_ | refine go_call ?_ | refine go_pr ?_ | refine go_me ?_ | refine go_isi ?_ | refine go_idx ?_ | refine go_sli ?_ | refine go_abs0 ?_ | refine go_tup ?_ | refine go_lst ?_ | refine go_fstr ?_ | refine go_Tcmp ?_ | refine go_Tchain ?_ | refine go_TisN ?_ | refine go_Tand ?_ | refine go_Tor ?_ | refine go_Tnot ?_ | refine go_Ttv ?_ | refine go_nil ?_ | refine go_cons ?_ | refine go_Fnil ?_ | refine go_Fcons ?_ | refine go_comp ?_ | refine go_sq ?_ | refine go_enm ?_ | refine go_rng1 ?_ | refine go_for ?_ | refine go_v0 ?_ | refine go_vs ?_ | refine go_add ?_ | refine go_sub ?_ | refine go_int ?_ | refine go_intb ?_ | refine go_abs ?_ | refine go_lent ?_ | refine go_lt ?_ | refine go_le ?_ | refine go_gt ?_ | refine go_ge ?_ | refine go_eqi ?_ | refine go_nei ?_ | refine go_eqs ?_ | refine go_nes ?_ | refine go_tb ?_ | refine go_t ?_ | refine go_f ?_ | (apply go_glo; with_unfolding_all exact rfl) | (apply go_lenl; (first | assumption | exact List.getElem?_set_self (by first | assumption | omega) | exact List.getElem?_concat_length)) | (apply go_lenf; (first | assumption | exact List.getElem?_set_self (by first | assumption | omega) | exact List.getElem?_concat_length)) | (apply go_il; (first | assumption | exact List.getElem?_set_self (by first | assumption | omega) | exact List.getElem?_concat_length); with_unfolding_all exact rfl; with_unfolding_all exact rfl) | (apply go_it; with_unfolding_all exact rfl; with_unfolding_all exact rfl) | (apply go_set; (first | assumption | exact List.getElem?_set_self (by first | assumption | omega) | exact List.getElem?_concat_length); with_unfolding_all exact rfl) | dsimp only [List.set_cons_zero, List.set_cons_succ, set_0, set_s]))
    have c0 : 0 ≤ (if ns[j] < 0 then -ns[j] else ns[j]) := by split <;> omega
    generalize (if ns[j] < 0 then -ns[j] else ns[j]) = cell at c0 ⊢
    have s0 := Int.emod_nonneg cell (show (2147483629 : Int) ≠ 0 by decide)
    have s1 := Int.emod_lt_of_pos cell (show (0 : Int) < 2147483629 by decide)
    have b0 : 0 ≤ (if decide (ns[j] < 0) = true then (1 : Int) else 0) ∧ (if decide (ns[j] < 0) = true then (1 : Int) else 0) ≤ 1 := by split <;> decide
    generalize (if decide (ns[j] < 0) = true then (1 : Int) else 0) = bb at b0 ⊢
    generalize cell % 2147483629 = sd at s0 s1 ⊢
    refine go_dc (fun _ => ?_) (fun _ => ?_)
    · repeat (with_reducible (first | refine go_Bnil ?_ | refine go_Bcons ?_ | refine go_asg ?_ | refine go_seti ?_ | refine go_exp ?_ | refine go_ret ?_ | refine go_if ?_ | refine go_var ?_ | refine go_con ?_ | refine go_bin ?_ | refine go_neg ?_ | refine go_cmp ?_ | refine go_chain ?_ | refine go_isN ?_ | refine go_and ?_ | refine go_or ?_ | refine go_not ?_ | refine go_call ?_ | refine go_pr ?_ | refine go_me ?_ | refine go_isi ?_ | refine go_idx ?_ | refine go_sli ?_ | refine go_abs0 ?_ | refine go_tup ?_ | refine go_lst ?_ | refine go_fstr ?_ | refine go_Tcmp ?_ | refine go_Tchain ?_ | refine go_TisN ?_ | refine go_Tand ?_ | refine go_Tor ?_ | refine go_Tnot ?_ | refine go_Ttv ?_ | refine go_nil ?_ | refine go_cons ?_ | refine go_Fnil ?_ | refine go_Fcons ?_ | refine go_comp ?_ | refine go_sq ?_ | refine go_enm ?_ | refine go_rng1 ?_ | refine go_for ?_ | refine go_v0 ?_ | refine go_vs ?_ | refine go_add ?_ | refine go_sub ?_ | refine go_int ?_ | refine go_intb ?_ | refine go_abs ?_ | refine go_lent ?_ | refine go_lt ?_ | refine go_le ?_ | refine go_gt ?_ | refine go_ge ?_ | refine go_eqi ?_ | refine go_nei ?_ | refine go_eqs ?_ | refine go_nes ?_ | refine go_tb ?_ | refine go_t ?_ | refine go_f ?_ | (apply go_glo; with_unfolding_all exact rfl) | (apply go_lenl; (first | assumption | exact List.getElem?_set_self (by first | assumption | omega) | exact List.getElem?_concat_length)) | (apply go_lenf; (first | assumption | exact List.getElem?_set_self (by first | assumption | omega) | exact List.getElem?_concat_length)) | (apply go_il; (first | assumption | exact List.getElem?_set_self (by first | assumption | omega) | exact List.getElem?_concat_length); with_unfolding_all exact rfl; with_unfolding_all exact rfl) | (apply go_it; with_unfolding_all exact rfl; with_unfolding_all exact rfl) | (apply go_set; (first | assumption | exact List.getElem?_set_self (by first | assumption | omega) | exact List.getElem?_concat_length); with_unfolding_all exact rfl) | dsimp only [List.set_cons_zero, List.set_cons_succ, set_0, set_s]))
      refine go_pow ⟨by decide, by decide, by decide⟩ ?_
      repeat (with_reducible (first | refine go_Bnil ?_ | refine go_Bcons ?_ | refine go_asg ?_ | refine go_seti ?_ | refine go_exp ?_ | refine go_ret ?_ | refine go_if ?_ | refine go_var ?_ | refine go_con ?_ | refine go_bin ?_ | refine go_neg ?_ | refine go_cmp ?_ | refine go_chain ?_ | refine go_isN ?_ | refine go_and ?_ | refine go_or ?_ | refine go_not ?_ | refine go_call ?_ | refine go_pr ?_ | refine go_me ?_ | refine go_isi ?_ | refine go_idx ?_ | refine go_sli ?_ | refine go_abs0 ?_ | refine go_tup ?_ | refine go_lst ?_ | refine go_fstr ?_ | refine go_Tcmp ?_ | refine go_Tchain ?_ | refine go_TisN ?_ | refine go_Tand ?_ | refine go_Tor ?_ | refine go_Tnot ?_ | refine go_Ttv ?_ | refine go_nil ?_ | refine go_cons ?_ | refine go_Fnil ?_ | refine go_Fcons ?_ | refine go_comp ?_ | refine go_sq ?_ | refine go_enm ?_ | refine go_rng1 ?_ | refine go_for ?_ | refine go_v0 ?_ | refine go_vs ?_ | refine go_add ?_ | refine go_sub ?_ | refine go_int ?_ | refine go_intb ?_ | refine go_abs ?_ | refine go_lent ?_ | refine go_lt ?_ | refine go_le ?_ | refine go_gt ?_ | refine go_ge ?_ | refine go_eqi ?_ | refine go_nei ?_ | refine go_eqs ?_ | refine go_nes ?_ | refine go_tb ?_ | refine go_t ?_ | refine go_f ?_ | (apply go_glo; with_unfolding_all exact rfl) | (apply go_lenl; (first | assumption | exact List.getElem?_set_self (by first | assumption | omega) | exact List.getElem?_concat_length)) | (apply go_lenf; (first | assumption | exact List.getElem?_set_self (by first | assumption | omega) | exact List.getElem?_concat_length)) | (apply go_il; (first | assumption | exact List.getElem?_set_self (by first | assumption | omega) | exact List.getElem?_concat_length); with_unfolding_all exact rfl; with_unfolding_all exact rfl) | (apply go_it; with_unfolding_all exact rfl; with_unfolding_all exact rfl) | (apply go_set; (first | assumption | exact List.getElem?_set_self (by first | assumption | omega) | exact List.getElem?_concat_length); with_unfolding_all exact rfl) | dsimp only [List.set_cons_zero, List.set_cons_succ, set_0, set_s]))
      refine go_dc (fun _ => ?_) (fun _ => ?_)
      · repeat (with_reducible (first | refine go_Bnil ?_ | refine go_Bcons ?_ | refine go_asg ?_ | refine go_seti ?_ | refine go_exp ?_ | refine go_ret ?_ | refine go_if ?_ | refine go_var ?_ | refine go_con ?_ | refine go_bin ?_ | refine go_neg ?_ | refine go_cmp ?_ | refine go_chain ?_ | refine go_isN ?_ | refine go_and ?_ | refine go_or ?_ | refine go_not ?_ | refine go_call ?_ | refine go_pr ?_ | refine go_me ?_ | refine go_isi ?_ | refine go_idx ?_ | refine go_sli ?_ | refine go_abs0 ?_ | refine go_tup ?_ | refine go_lst ?_ | refine go_fstr ?_ | refine go_Tcmp ?_ | refine go_Tchain ?_ | refine go_TisN ?_ | refine go_Tand ?_ | refine go_Tor ?_ | refine go_Tnot ?_ | refine go_Ttv ?_ | refine go_nil ?_ | refine go_cons ?_ | refine go_Fnil ?_ | refine go_Fcons ?_ | refine go_comp ?_ | refine go_sq ?_ | refine go_enm ?_ | refine go_rng1 ?_ | refine go_for ?_ | refine go_v0 ?_ | refine go_vs ?_ | refine go_add ?_ | refine go_sub ?_ | refine go_int ?_ | refine go_intb ?_ | refine go_abs ?_ | refine go_lent ?_ | refine go_lt ?_ | refine go_le ?_ | refine go_gt ?_ | refine go_ge ?_ | refine go_eqi ?_ | refine go_nei ?_ | refine go_eqs ?_ | refine go_nes ?_ | refine go_tb ?_ | refine go_t ?_ | refine go_f ?_ | (apply go_glo; with_unfolding_all exact rfl) | (apply go_lenl; (first | assumption | exact List.getElem?_set_self (by first | assumption | omega) | exact List.getElem?_concat_length)) | (apply go_lenf; (first | assumption | exact List.getElem?_set_self (by first | assumption | omega) | exact List.getElem?_concat_length)) | (apply go_il; (first | assumption | exact List.getElem?_set_self (by first | assumption | omega) | exact List.getElem?_concat_length); with_unfolding_all exact rfl; with_unfolding_all exact rfl) | (apply go_it; with_unfolding_all exact rfl; with_unfolding_all exact rfl) | (apply go_set; (first | assumption | exact List.getElem?_set_self (by first | assumption | omega) | exact List.getElem?_concat_length); with_unfolding_all exact rfl) | dsimp only [List.set_cons_zero, List.set_cons_succ, set_0, set_s]))
        exact mk _ _ c0 (by omega) (by omega)
      · repeat (with_reducible (first | refine go_Bnil ?_ | refine go_Bcons ?_ | refine go_asg ?_ | refine go_seti ?_ | refine go_exp ?_ | refine go_ret ?_ | refine go_if ?_ | refine go_var ?_ | refine go_con ?_ | refine go_bin ?_ | refine go_neg ?_ | refine go_cmp ?_ | refine go_chain ?_ | refine go_isN ?_ | refine go_and ?_ | refine go_or ?_ | refine go_not ?_ | refine go_call ?_ | refine go_pr ?_ | refine go_me ?_ | refine go_isi ?_ | refine go_idx ?_ | refine go_sli ?_ | refine go_abs0 ?_ | refine go_tup ?_ | refine go_lst ?_ | refine go_fstr ?_ | refine go_Tcmp ?_ | refine go_Tchain ?_ | refine go_TisN ?_ | refine go_Tand ?_ | refine go_Tor ?_ | refine go_Tnot ?_ | refine go_Ttv ?_ | refine go_nil ?_ | refine go_cons ?_ | refine go_Fnil ?_ | refine go_Fcons ?_ | refine go_comp ?_ | refine go_sq ?_ | refine go_enm ?_ | refine go_rng1 ?_ | refine go_for ?_ | refine go_v0 ?_ | refine go_vs ?_ | refine go_add ?_ | refine go_sub ?_ | refine go_int ?_ | refine go_intb ?_ | refine go_abs ?_ | refine go_lent ?_ | refine go_lt ?_ | refine go_le ?_ | refine go_gt ?_ | refine go_ge ?_ | refine go_eqi ?_ | refine go_nei ?_ | refine go_eqs ?_ | refine go_nes ?_ | refine go_tb ?_ | refine go_t ?_ | refine go_f ?_ | (apply go_glo; with_unfolding_all exact rfl) | (apply go_lenl; (first | assumption | exact List.getElem?_set_self (by first | assumption | omega) | exact List.getElem?_concat_length)) | (apply go_lenf; (first | assumption | exact List.getElem?_set_self (by first | assumption | omega) | exact List.getElem?_concat_length)) | (apply go_il; (first | assumption | exact List.getElem?_set_self (by first | assumption | omega) | exact List.getElem?_concat_length); with_unfolding_all exact rfl; with_unfolding_all exact rfl) | (apply go_it; with_unfolding_all exact rfl; with_unfolding_all exact rfl) | (apply go_set; (first | assumption | exact List.getElem?_set_self (by first | assumption | omega) | exact List.getElem?_concat_length); with_unfolding_all exact rfl) | dsimp only [List.set_cons_zero, List.set_cons_succ, set_0, set_s]))
        exact mk _ _ (by decide) (by omega) (by omega)
    · repeat (with_reducible (first | refine go_Bnil ?_ | refine go_Bcons ?_ | refine go_asg ?_ | refine go_seti ?_ | refine go_exp ?_ | refine go_ret ?_ | refine go_if ?_ | refine go_var ?_ | refine go_con ?_ | refine go_bin ?_ | refine go_neg ?_ | refine go_cmp ?_ | refine go_chain ?_ | refine go_isN ?_ | refine go_and ?_ | refine go_or ?_ | refine go_not ?_ | refine go_call ?_ | refine go_pr ?_ | refine go_me ?_ | refine go_isi ?_ | refine go_idx ?_ | refine go_sli ?_ | refine go_abs0 ?_ | refine go_tup ?_ | refine go_lst ?_ | refine go_fstr ?_ | refine go_Tcmp ?_ | refine go_Tchain ?_ | refine go_TisN ?_ | refine go_Tand ?_ | refine go_Tor ?_ | refine go_Tnot ?_ | refine go_Ttv ?_ | refine go_nil ?_ | refine go_cons ?_ | refine go_Fnil ?_ | refine go_Fcons ?_ | refine go_comp ?_ | refine go_sq ?_ | refine go_enm ?_ | refine go_rng1 ?_ | refine go_for ?_ | refine go_v0 ?_ | refine go_vs ?_ | refine go_add ?_ | refine go_sub ?_ | refine go_int ?_ | refine go_intb ?_ | refine go_abs ?_ | refine go_lent ?_ | refine go_lt ?_ | refine go_le ?_ | refine go_gt ?_ | refine go_ge ?_ | refine go_eqi ?_ | refine go_nei ?_ | refine go_eqs ?_ | refine go_nes ?_ | refine go_tb ?_ | refine go_t ?_ | refine go_f ?_ | (apply go_glo; with_unfolding_all exact rfl) | (apply go_lenl; (first | assumption | exact List.getElem?_set_self (by first | assumption | omega) | exact List.getElem?_concat_length)) | (apply go_lenf; (first | assumption | exact List.getElem?_set_self (by first | assumption | omega) | exact List.getElem?_concat_length)) | (apply go_il; (first | assumption | exact List.getElem?_set_self (by first | assumption | omega) | exact List.getElem?_concat_length); with_unfolding_all exact rfl; with_unfolding_all exact rfl) | (apply go_it; with_unfolding_all exact rfl; with_unfolding_all exact rfl) | (apply go_set; (first | assumption | exact List.getElem?_set_self (by first | assumption | omega) | exact List.getElem?_concat_length); with_unfolding_all exact rfl) | dsimp only [List.set_cons_zero, List.set_cons_succ, set_0, set_s]))
      exact mk _ _ (by decide) (by omega) (by omega)
end Y.K_k17
set_option linter.all false
set_option maxHeartbeats 4000000
set_option maxRecDepth 100000
namespace Y.K_k17
open Y PySem
def az : List Nat := [97, 98, 99, 100, 101, 102, 103, 104, 105, 106, 107, 108, 109, 110, 111, 112, 113, 114, 115, 116, 117, 118, 119, 120, 121, 122]
structure IsName (x : List Nat) : Prop where
  lo : 1 ≤ x.length
  hi : x.length ≤ 8
  az : ∀ c ∈ x, c ∈ K_k17.az
theorem Pool.lt {h : Nat} {st : Store} (p : Pool h st) : h < st.length := by
  obtain ⟨c, s, t, e, _⟩ := p
  exact (List.getElem?_eq_some_iff.mp e).1
theorem Pool.app {h : Nat} {st st2 : Store} (p : Pool h st) : Pool h (st ++ st2) := by
  obtain ⟨c, s, t, e, q⟩ := p
  exact ⟨c, s, t, by rw [List.getElem?_append_left (List.getElem?_eq_some_iff.mp e).1]; exact e, q⟩
theorem Pool.set {h g : Nat} {o : O} {st : Store} (p : Pool h st) (ne : g ≠ h) : Pool h (st.set g o) := by
  obtain ⟨c, s, t, e, q⟩ := p
  exact ⟨c, s, t, by rw [List.getElem?_set_ne ne]; exact e, q⟩
theorem Ch.refl {h : Nat} {st : Store} (p : Pool h st) : Ch h st st := ⟨p, Nat.le_refl _, fun _ _ _ => rfl⟩
theorem Ch.trans {h : Nat} {a b c : Store} (x : Ch h a b) (y : Ch h b c) : Ch h a c := ⟨y.pool, Nat.le_trans x.len y.len, fun g n l => (y.same g n (Nat.lt_of_lt_of_le l x.len)).trans (x.same g n l)⟩
theorem Ch.app {h : Nat} {a b c : Store} (x : Ch h a b) : Ch h a (b ++ c) := ⟨x.pool.app, by rw [List.length_append]; exact Nat.le_trans x.len (Nat.le_add_right _ _), fun g n l => by rw [List.getElem?_append_left (Nat.lt_of_lt_of_le l x.len)]; exact x.same g n l⟩
theorem Ch.set {h g : Nat} {o : O} {a b : Store} (x : Ch h a b) (ne : g ≠ h) (l : a.length ≤ g) : Ch h a (b.set g o) := ⟨x.pool.set ne, by simpa using x.len, fun k n l2 => by rw [List.getElem?_set_ne (by omega)]; exact x.same k n l2⟩
theorem joinL_nil : ∀ ys : List (List Nat), TL.joinL [] ys = ys.flatten
  | [] => rfl
  | [p] => by simp [TL.joinL]
  | p :: q :: r => by
    show p ++ ([] ++ TL.joinL [] (q :: r)) = _
    rw [joinL_nil (q :: r), List.flatten_cons]
    simp
theorem name {k h : Nat} {st : Store} {Q : QE} {X : QX} (P : Pool h st) (hq : ∀ (x : List Nat) (st' : Store), IsName x → Ch h st st' → Q (.str x) st') : Call T (k + 2) 17 [.ref h] st Q X := by
  refine call_go f__law_name.fn rfl rfl ?_
  show wpB T (Call T (k + 1)) none b__law_name [some (.ref h), none, none] st _
  unfold b__law_name
  repeat (with_reducible (first | refine go_Bnil ?_ | refine go_Bcons ?_ | refine go_asg ?_ | refine go_seti ?_ | refine go_exp ?_ | refine go_ret ?_ | refine go_if ?_ | refine go_var ?_ | refine go_con ?_ | refine go_bin ?_ | refine go_neg ?_ | refine go_cmp ?_ | refine go_chain ?_ | refine go_isN ?_ | refine go_and ?_ | refine go_or ?_ | refine go_not ?_ | refine go_call ?_ | refine go_pr ?_ | refine go_me ?_ | refine go_isi ?_ | refine go_idx ?_ | refine go_sli ?_ | refine go_abs0 ?_ | refine go_tup ?_ | refine go_lst ?_ | refine go_fstr ?_ | refine go_Tcmp ?_ | refine go_Tchain ?_ | refine go_TisN ?_ | refine go_Tand ?_ | refine go_Tor ?_ | refine go_Tnot ?_ | refine go_Ttv ?_ | refine go_nil ?_ | refine go_cons ?_ | refine go_Fnil ?_ | refine go_Fcons ?_ | refine go_comp ?_ | refine go_sq ?_ | refine go_enm ?_ | refine go_rng1 ?_ | refine go_for ?_ | refine go_v0 ?_ | refine go_vs ?_ | refine go_add ?_ | refine go_sub ?_ | refine go_int ?_ | refine go_intb ?_ | refine go_abs ?_ | refine go_lent ?_ | refine go_lt ?_ | refine go_le ?_ | refine go_gt ?_ | refine go_ge ?_ | refine go_eqi ?_ | refine go_nei ?_ | refine go_eqs ?_ | refine go_nes ?_ | refine go_tb ?_ | refine go_t ?_ | refine go_f ?_ | (apply go_glo; with_unfolding_all exact rfl) | (apply go_lenl; (first | assumption | exact List.getElem?_set_self (by first | assumption | omega) | exact List.getElem?_concat_length)) | (apply go_lenf; (first | assumption | exact List.getElem?_set_self (by first | assumption | omega) | exact List.getElem?_concat_length)) | (apply go_il; (first | assumption | exact List.getElem?_set_self (by first | assumption | omega) | exact List.getElem?_concat_length); with_unfolding_all exact rfl; with_unfolding_all exact rfl) | (apply go_it; with_unfolding_all exact rfl; with_unfolding_all exact rfl) | (apply go_set; (first | assumption | exact List.getElem?_set_self (by first | assumption | omega) | exact List.getElem?_concat_length); with_unfolding_all exact rfl) | dsimp only [wipeE, List.set_cons_zero, List.set_cons_succ, set_0, set_s]))
  refine ⟨rfl, ?_⟩
  repeat (with_reducible (first | refine go_Bnil ?_ | refine go_Bcons ?_ | refine go_asg ?_ | refine go_seti ?_ | refine go_exp ?_ | refine go_ret ?_ | refine go_if ?_ | refine go_var ?_ | refine go_con ?_ | refine go_bin ?_ | refine go_neg ?_ | refine go_cmp ?_ | refine go_chain ?_ | refine go_isN ?_ | refine go_and ?_ | refine go_or ?_ | refine go_not ?_ | refine go_call ?_ | refine go_pr ?_ | refine go_me ?_ | refine go_isi ?_ | refine go_idx ?_ | refine go_sli ?_ | refine go_abs0 ?_ | refine go_tup ?_ | refine go_lst ?_ | refine go_fstr ?_ | refine go_Tcmp ?_ | refine go_Tchain ?_ | refine go_TisN ?_ | refine go_Tand ?_ | refine go_Tor ?_ | refine go_Tnot ?_ | refine go_Ttv ?_ | refine go_nil ?_ | refine go_cons ?_ | refine go_Fnil ?_ | refine go_Fcons ?_ | refine go_comp ?_ | refine go_sq ?_ | refine go_enm ?_ | refine go_rng1 ?_ | refine go_for ?_ | refine go_v0 ?_ | refine go_vs ?_ | refine go_add ?_ | refine go_sub ?_ | refine go_int ?_ | refine go_intb ?_ | refine go_abs ?_ | refine go_lent ?_ | refine go_lt ?_ | refine go_le ?_ | refine go_gt ?_ | refine go_ge ?_ | refine go_eqi ?_ | refine go_nei ?_ | refine go_eqs ?_ | refine go_nes ?_ | refine go_tb ?_ | refine go_t ?_ | refine go_f ?_ | (apply go_glo; with_unfolding_all exact rfl) | (apply go_lenl; (first | assumption | exact List.getElem?_set_self (by first | assumption | omega) | exact List.getElem?_concat_length)) | (apply go_lenf; (first | assumption | exact List.getElem?_set_self (by first | assumption | omega) | exact List.getElem?_concat_length)) | (apply go_il; (first | assumption | exact List.getElem?_set_self (by first | assumption | omega) | exact List.getElem?_concat_length); with_unfolding_all exact rfl; with_unfolding_all exact rfl) | (apply go_it; with_unfolding_all exact rfl; with_unfolding_all exact rfl) | (apply go_set; (first | assumption | exact List.getElem?_set_self (by first | assumption | omega) | exact List.getElem?_concat_length); with_unfolding_all exact rfl) | dsimp only [wipeE, List.set_cons_zero, List.set_cons_succ, set_0, set_s]))
  refine draw (m := 8) (by decide) (by decide) P fun v st1 v0 v1 len1 ch1 => ?_
  repeat (with_reducible (first | refine go_Bnil ?_ | refine go_Bcons ?_ | refine go_asg ?_ | refine go_seti ?_ | refine go_exp ?_ | refine go_ret ?_ | refine go_if ?_ | refine go_var ?_ | refine go_con ?_ | refine go_bin ?_ | refine go_neg ?_ | refine go_cmp ?_ | refine go_chain ?_ | refine go_isN ?_ | refine go_and ?_ | refine go_or ?_ | refine go_not ?_ | refine go_call ?_ | refine go_pr ?_ | refine go_me ?_ | refine go_isi ?_ | refine go_idx ?_ | refine go_sli ?_ | refine go_abs0 ?_ | refine go_tup ?_ | refine go_lst ?_ | refine go_fstr ?_ | refine go_Tcmp ?_ | refine go_Tchain ?_ | refine go_TisN ?_ | refine go_Tand ?_ | refine go_Tor ?_ | refine go_Tnot ?_ | refine go_Ttv ?_ | refine go_nil ?_ | refine go_cons ?_ | refine go_Fnil ?_ | refine go_Fcons ?_ | refine go_comp ?_ | refine go_sq ?_ | refine go_enm ?_ | refine go_rng1 ?_ | refine go_for ?_ | refine go_v0 ?_ | refine go_vs ?_ | refine go_add ?_ | refine go_sub ?_ | refine go_int ?_ | refine go_intb ?_ | refine go_abs ?_ | refine go_lent ?_ | refine go_lt ?_ | refine go_le ?_ | refine go_gt ?_ | refine go_ge ?_ | refine go_eqi ?_ | refine go_nei ?_ | refine go_eqs ?_ | refine go_nes ?_ | refine go_tb ?_ | refine go_t ?_ | refine go_f ?_ | (apply go_glo; with_unfolding_all exact rfl) | (apply go_lenl; (first | assumption | exact List.getElem?_set_self (by first | assumption | omega) | exact List.getElem?_concat_length)) | (apply go_lenf; (first | assumption | exact List.getElem?_set_self (by first | assumption | omega) | exact List.getElem?_concat_length)) | (apply go_il; (first | assumption | exact List.getElem?_set_self (by first | assumption | omega) | exact List.getElem?_concat_length); with_unfolding_all exact rfl; with_unfolding_all exact rfl) | (apply go_it; with_unfolding_all exact rfl; with_unfolding_all exact rfl) | (apply go_set; (first | assumption | exact List.getElem?_set_self (by first | assumption | omega) | exact List.getElem?_concat_length); with_unfolding_all exact rfl) | dsimp only [wipeE, List.set_cons_zero, List.set_cons_succ, set_0, set_s]))
  refine ⟨by omega, by omega, (1 + v).toNat + 1, ?_⟩
  have lst : st1.length ≠ h := by
    have := P.lt
    omega
  refine cmp_rng (h := st1.length) (fun d => ∃ c, d = .str [c] ∧ c ∈ az) (fun s => Ch h st s) (1 + v).toNat (fun i s acc Q' iv ea k => ?_) (fun ds s l al e iv => ?_) (Nat.lt_of_lt_of_le (show (1 + v).toNat < 9 by omega) (by decide)) _ 0 [] _ (by omega) rfl (fun _ m => by cases m) List.getElem?_concat_length ch1.app
  · repeat (with_reducible (first | refine go_Bnil ?_ | refine go_Bcons ?_ | refine go_asg ?_ | refine go_seti ?_ | refine go_exp ?_ | refine go_ret ?_ | refine go_if ?_ | refine go_var ?_ | refine go_con ?_ | refine go_bin ?_ | refine go_neg ?_ | refine go_cmp ?_ | refine go_chain ?_ | refine go_isN ?_ | refine go_and ?_ | refine go_or ?_ | refine go_not ?_ | refine go_call ?_ | refine go_pr ?_ | refine go_me ?_ | refine go_isi ?_ | refine go_idx ?_ | refine go_sli ?_ | refine go_abs0 ?_ | refine go_tup ?_ | refine go_lst ?_ | refine go_fstr ?_ | refine go_Tcmp ?_ | refine go_Tchain ?_ | refine go_TisN ?_ | refine go_Tand ?_ | refine go_Tor ?_ | refine go_Tnot ?_ | refine go_Ttv ?_ | refine go_nil ?_ | refine go_cons ?_ | refine go_Fnil ?_ | refine go_Fcons ?_ | refine go_comp ?_ | refine go_sq ?_ | refine go_enm ?_ | refine go_rng1 ?_ | refine go_for ?_ | refine go_v0 ?_ | refine go_vs ?_ | refine go_add ?_ | refine go_sub ?_ | refine go_int ?_ | refine go_intb ?_ | refine go_abs ?_ | refine go_lent ?_ | refine go_lt ?_ | refine go_le ?_ | refine go_gt ?_ | refine go_ge ?_ | refine go_eqi ?_ | refine go_nei ?_ | refine go_eqs ?_ | refine go_nes ?_ | refine go_tb ?_ | refine go_t ?_ | refine go_f ?_ | (apply go_glo; with_unfolding_all exact rfl) | (apply go_lenl; (first | assumption | exact List.getElem?_set_self (by first | assumption | omega) | exact List.getElem?_concat_length)) | (apply go_lenf; (first | assumption | exact List.getElem?_set_self (by first | assumption | omega) | exact List.getElem?_concat_length)) | (apply go_il; (first | assumption | exact List.getElem?_set_self (by first | assumption | omega) | exact List.getElem?_concat_length); with_unfolding_all exact rfl; with_unfolding_all exact rfl) | (apply go_it; with_unfolding_all exact rfl; with_unfolding_all exact rfl) | (apply go_set; (first | assumption | exact List.getElem?_set_self (by first | assumption | omega) | exact List.getElem?_concat_length); with_unfolding_all exact rfl) | dsimp only [wipeE, List.set_cons_zero, List.set_cons_succ, set_0, set_s]))
    refine draw (m := 26) (by decide) (by decide) iv.pool fun w s2 w0 w1 len2 ch2 => ?_
    refine go_is (show 26 ≤ line by decide) (ix_pos w0 w1) (c := az[w.toNat]'(by show w.toNat < 26; omega)) (List.getElem?_eq_getElem (l := az) (by show w.toNat < 26; omega)) ?_
    refine k _ s2 ⟨_, rfl, List.getElem_mem _⟩ ?_ (iv.trans ch2) fun acc' => (iv.trans ch2).set lst (by omega)
    rw [ch2.same _ lst (List.getElem?_eq_some_iff.mp ea).1]
    exact ea
  · repeat (with_reducible (first | refine go_Bnil ?_ | refine go_Bcons ?_ | refine go_asg ?_ | refine go_seti ?_ | refine go_exp ?_ | refine go_ret ?_ | refine go_if ?_ | refine go_var ?_ | refine go_con ?_ | refine go_bin ?_ | refine go_neg ?_ | refine go_cmp ?_ | refine go_chain ?_ | refine go_isN ?_ | refine go_and ?_ | refine go_or ?_ | refine go_not ?_ | refine go_call ?_ | refine go_pr ?_ | refine go_me ?_ | refine go_isi ?_ | refine go_idx ?_ | refine go_sli ?_ | refine go_abs0 ?_ | refine go_tup ?_ | refine go_lst ?_ | refine go_fstr ?_ | refine go_Tcmp ?_ | refine go_Tchain ?_ | refine go_TisN ?_ | refine go_Tand ?_ | refine go_Tor ?_ | refine go_Tnot ?_ | refine go_Ttv ?_ | refine go_nil ?_ | refine go_cons ?_ | refine go_Fnil ?_ | refine go_Fcons ?_ | refine go_comp ?_ | refine go_sq ?_ | refine go_enm ?_ | refine go_rng1 ?_ | refine go_for ?_ | refine go_v0 ?_ | refine go_vs ?_ | refine go_add ?_ | refine go_sub ?_ | refine go_int ?_ | refine go_intb ?_ | refine go_abs ?_ | refine go_lent ?_ | refine go_lt ?_ | refine go_le ?_ | refine go_gt ?_ | refine go_ge ?_ | refine go_eqi ?_ | refine go_nei ?_ | refine go_eqs ?_ | refine go_nes ?_ | refine go_tb ?_ | refine go_t ?_ | refine go_f ?_ | (apply go_glo; with_unfolding_all exact rfl) | (apply go_lenl; (first | assumption | exact List.getElem?_set_self (by first | assumption | omega) | exact List.getElem?_concat_length)) | (apply go_lenf; (first | assumption | exact List.getElem?_set_self (by first | assumption | omega) | exact List.getElem?_concat_length)) | (apply go_il; (first | assumption | exact List.getElem?_set_self (by first | assumption | omega) | exact List.getElem?_concat_length); with_unfolding_all exact rfl; with_unfolding_all exact rfl) | (apply go_it; with_unfolding_all exact rfl; with_unfolding_all exact rfl) | (apply go_set; (first | assumption | exact List.getElem?_set_self (by first | assumption | omega) | exact List.getElem?_concat_length); with_unfolding_all exact rfl) | dsimp only [wipeE, List.set_cons_zero, List.set_cons_succ, set_0, set_s]))
    have ys : ∃ ys : List Nat, ds = ys.map (fun c => D.str [c]) ∧ ∀ c ∈ ys, c ∈ az := by
      clear l e
      induction ds with
      | nil => exact ⟨[], rfl, fun _ m => by cases m⟩
      | cons d ds ih =>
        obtain ⟨ys, e1, e2⟩ := ih fun d hd => al d (List.mem_cons_of_mem _ hd)
        obtain ⟨c, e3, e4⟩ := al d List.mem_cons_self
        refine ⟨c :: ys, by rw [e3, e1]; rfl, fun x hx => ?_⟩
        cases hx with
        | head => exact e4
        | tail _ m => exact e2 x m
    obtain ⟨ys, rfl, az'⟩ := ys
    rw [List.length_map] at l
    have fl : (ys.map fun c => [c]).flatten = ys := by
      induction ys with
      | nil => rfl
      | cons c ys ih =>
        rw [List.map_cons, List.flatten_cons, List.singleton_append]
        congr 1
        clear ih l e az' al
        induction ys with
        | nil => rfl
        | cons c ys ih => rw [List.map_cons, List.flatten_cons, ih]; rfl
    refine go_join (ys := ys.map fun c => [c]) ?_ ?_ ?_
    · unfold seqOf
      dsimp only
      rw [e, List.map_map]
      rfl
    · rw [List.map_map]
      have : (ys.map (List.length ∘ fun c => [c])).sum = ys.length := by
        clear l e az' al fl
        induction ys with
        | nil => rfl
        | cons c ys ih => rw [List.map_cons, List.sum_cons, ih, List.length_cons]; simp; omega
      rw [this]
      simp
      omega
    · rw [joinL_nil, fl]
      exact hq ys s ⟨by omega, by omega, az'⟩ iv
def wStep : List Nat := [115, 116, 101, 112]
def wCall : List Nat := [99, 97, 108, 108]
def IsCall (d : D) : Prop := ∃ (x : List Nat) (n : Int), d = .tup [.str x, .int n] ∧ IsName x ∧ 0 ≤ n ∧ n < 9
def IsItem (d : D) : Prop := (∃ n : Int, d = .tup [.str wStep, .int n] ∧ 0 ≤ n ∧ n < 2) ∨ ∃ (n : Int) (c : D), d = .tup [.str wCall, .int n, c] ∧ 0 ≤ n ∧ n < 2 ∧ IsCall c
theorem call {k h : Nat} {st : Store} {Q : QE} {X : QX} (P : Pool h st) (hq : ∀ (d : D) (st' : Store), IsCall d → Ch h st st' → Q d st') : Call T (k + 3) 18 [.ref h] st Q X := by
  refine call_go f__law_call.fn rfl rfl ?_
  show wpB T (Call T (k + 2)) none b__law_call [some (.ref h)] st _
  unfold b__law_call
  repeat (with_reducible (first | refine go_Bnil ?_ | refine go_Bcons ?_ | refine go_asg ?_ | refine go_seti ?_ | refine go_exp ?_ | refine go_ret ?_ | refine go_if ?_ | refine go_var ?_ | refine go_con ?_ | refine go_bin ?_ | refine go_neg ?_ | refine go_cmp ?_ | refine go_chain ?_ | refine go_isN ?_ | refine go_and ?_ | refine go_or ?_ | refine go_not ?_ | refine go_call ?_ | refine go_pr ?_ | refine go_me ?_ | refine go_isi ?_ | refine go_idx ?_ | refine go_sli ?_ | refine go_abs0 ?_ | refine go_tup ?_ | refine go_lst ?_ | refine go_fstr ?_ | refine go_Tcmp ?_ | refine go_Tchain ?_ | refine go_TisN ?_ | refine go_Tand ?_ | refine go_Tor ?_ | refine go_Tnot ?_ | refine go_Ttv ?_ | refine go_nil ?_ | refine go_cons ?_ | refine go_Fnil ?_ | refine go_Fcons ?_ | refine go_comp ?_ | refine go_sq ?_ | refine go_enm ?_ | refine go_rng1 ?_ | refine go_for ?_ | refine go_v0 ?_ | refine go_vs ?_ | refine go_add ?_ | refine go_sub ?_ | refine go_int ?_ | refine go_intb ?_ | refine go_abs ?_ | refine go_lent ?_ | refine go_lt ?_ | refine go_le ?_ | refine go_gt ?_ | refine go_ge ?_ | refine go_eqi ?_ | refine go_nei ?_ | refine go_eqs ?_ | refine go_nes ?_ | refine go_tb ?_ | refine go_t ?_ | refine go_f ?_ | (apply go_glo; with_unfolding_all exact rfl) | (apply go_lenl; (first | assumption | exact List.getElem?_set_self (by first | assumption | omega) | exact List.getElem?_concat_length)) | (apply go_lenf; (first | assumption | exact List.getElem?_set_self (by first | assumption | omega) | exact List.getElem?_concat_length)) | (apply go_il; (first | assumption | exact List.getElem?_set_self (by first | assumption | omega) | exact List.getElem?_concat_length); with_unfolding_all exact rfl; with_unfolding_all exact rfl) | (apply go_it; with_unfolding_all exact rfl; with_unfolding_all exact rfl) | (apply go_set; (first | assumption | exact List.getElem?_set_self (by first | assumption | omega) | exact List.getElem?_concat_length); with_unfolding_all exact rfl) | dsimp only [wipeE, List.set_cons_zero, List.set_cons_succ, set_0, set_s]))
  refine name P fun x s1 ix c1 => ?_
  repeat (with_reducible (first | refine go_Bnil ?_ | refine go_Bcons ?_ | refine go_asg ?_ | refine go_seti ?_ | refine go_exp ?_ | refine go_ret ?_ | refine go_if ?_ | refine go_var ?_ | refine go_con ?_ | refine go_bin ?_ | refine go_neg ?_ | refine go_cmp ?_ | refine go_chain ?_ | refine go_isN ?_ | refine go_and ?_ | refine go_or ?_ | refine go_not ?_ | refine go_call ?_ | refine go_pr ?_ | refine go_me ?_ | refine go_isi ?_ | refine go_idx ?_ | refine go_sli ?_ | refine go_abs0 ?_ | refine go_tup ?_ | refine go_lst ?_ | refine go_fstr ?_ | refine go_Tcmp ?_ | refine go_Tchain ?_ | refine go_TisN ?_ | refine go_Tand ?_ | refine go_Tor ?_ | refine go_Tnot ?_ | refine go_Ttv ?_ | refine go_nil ?_ | refine go_cons ?_ | refine go_Fnil ?_ | refine go_Fcons ?_ | refine go_comp ?_ | refine go_sq ?_ | refine go_enm ?_ | refine go_rng1 ?_ | refine go_for ?_ | refine go_v0 ?_ | refine go_vs ?_ | refine go_add ?_ | refine go_sub ?_ | refine go_int ?_ | refine go_intb ?_ | refine go_abs ?_ | refine go_lent ?_ | refine go_lt ?_ | refine go_le ?_ | refine go_gt ?_ | refine go_ge ?_ | refine go_eqi ?_ | refine go_nei ?_ | refine go_eqs ?_ | refine go_nes ?_ | refine go_tb ?_ | refine go_t ?_ | refine go_f ?_ | (apply go_glo; with_unfolding_all exact rfl) | (apply go_lenl; (first | assumption | exact List.getElem?_set_self (by first | assumption | omega) | exact List.getElem?_concat_length)) | (apply go_lenf; (first | assumption | exact List.getElem?_set_self (by first | assumption | omega) | exact List.getElem?_concat_length)) | (apply go_il; (first | assumption | exact List.getElem?_set_self (by first | assumption | omega) | exact List.getElem?_concat_length); with_unfolding_all exact rfl; with_unfolding_all exact rfl) | (apply go_it; with_unfolding_all exact rfl; with_unfolding_all exact rfl) | (apply go_set; (first | assumption | exact List.getElem?_set_self (by first | assumption | omega) | exact List.getElem?_concat_length); with_unfolding_all exact rfl) | dsimp only [wipeE, List.set_cons_zero, List.set_cons_succ, set_0, set_s]))
  refine draw (m := 9) (by decide) (by decide) c1.pool fun v s2 v0 v1 _ c2 => ?_
  repeat (with_reducible (first | refine go_Bnil ?_ | refine go_Bcons ?_ | refine go_asg ?_ | refine go_seti ?_ | refine go_exp ?_ | refine go_ret ?_ | refine go_if ?_ | refine go_var ?_ | refine go_con ?_ | refine go_bin ?_ | refine go_neg ?_ | refine go_cmp ?_ | refine go_chain ?_ | refine go_isN ?_ | refine go_and ?_ | refine go_or ?_ | refine go_not ?_ | refine go_call ?_ | refine go_pr ?_ | refine go_me ?_ | refine go_isi ?_ | refine go_idx ?_ | refine go_sli ?_ | refine go_abs0 ?_ | refine go_tup ?_ | refine go_lst ?_ | refine go_fstr ?_ | refine go_Tcmp ?_ | refine go_Tchain ?_ | refine go_TisN ?_ | refine go_Tand ?_ | refine go_Tor ?_ | refine go_Tnot ?_ | refine go_Ttv ?_ | refine go_nil ?_ | refine go_cons ?_ | refine go_Fnil ?_ | refine go_Fcons ?_ | refine go_comp ?_ | refine go_sq ?_ | refine go_enm ?_ | refine go_rng1 ?_ | refine go_for ?_ | refine go_v0 ?_ | refine go_vs ?_ | refine go_add ?_ | refine go_sub ?_ | refine go_int ?_ | refine go_intb ?_ | refine go_abs ?_ | refine go_lent ?_ | refine go_lt ?_ | refine go_le ?_ | refine go_gt ?_ | refine go_ge ?_ | refine go_eqi ?_ | refine go_nei ?_ | refine go_eqs ?_ | refine go_nes ?_ | refine go_tb ?_ | refine go_t ?_ | refine go_f ?_ | (apply go_glo; with_unfolding_all exact rfl) | (apply go_lenl; (first | assumption | exact List.getElem?_set_self (by first | assumption | omega) | exact List.getElem?_concat_length)) | (apply go_lenf; (first | assumption | exact List.getElem?_set_self (by first | assumption | omega) | exact List.getElem?_concat_length)) | (apply go_il; (first | assumption | exact List.getElem?_set_self (by first | assumption | omega) | exact List.getElem?_concat_length); with_unfolding_all exact rfl; with_unfolding_all exact rfl) | (apply go_it; with_unfolding_all exact rfl; with_unfolding_all exact rfl) | (apply go_set; (first | assumption | exact List.getElem?_set_self (by first | assumption | omega) | exact List.getElem?_concat_length); with_unfolding_all exact rfl) | dsimp only [wipeE, List.set_cons_zero, List.set_cons_succ, set_0, set_s]))
  exact hq _ _ ⟨x, v, rfl, ix, v0, v1⟩ (c1.trans c2)
theorem item {k h : Nat} {st : Store} {Q : QE} {X : QX} (P : Pool h st) (hq : ∀ (d : D) (st' : Store), IsItem d → Ch h st st' → Q d st') : Call T (k + 4) 19 [.ref h] st Q X := by
  refine call_go f__law_item.fn rfl rfl ?_
  show wpB T (Call T (k + 3)) none b__law_item [some (.ref h), none] st _
  unfold b__law_item
  repeat (with_reducible (first | refine go_Bnil ?_ | refine go_Bcons ?_ | refine go_asg ?_ | refine go_seti ?_ | refine go_exp ?_ | refine go_ret ?_ | refine go_if ?_ | refine go_var ?_ | refine go_con ?_ | refine go_bin ?_ | refine go_neg ?_ | refine go_cmp ?_ | refine go_chain ?_ | refine go_isN ?_ | refine go_and ?_ | refine go_or ?_ | refine go_not ?_ | refine go_call ?_ | refine go_pr ?_ | refine go_me ?_ | refine go_isi ?_ | refine go_idx ?_ | refine go_sli ?_ | refine go_abs0 ?_ | refine go_tup ?_ | refine go_lst ?_ | refine go_fstr ?_ | refine go_Tcmp ?_ | refine go_Tchain ?_ | refine go_TisN ?_ | refine go_Tand ?_ | refine go_Tor ?_ | refine go_Tnot ?_ | refine go_Ttv ?_ | refine go_nil ?_ | refine go_cons ?_ | refine go_Fnil ?_ | refine go_Fcons ?_ | refine go_comp ?_ | refine go_sq ?_ | refine go_enm ?_ | refine go_rng1 ?_ | refine go_for ?_ | refine go_v0 ?_ | refine go_vs ?_ | refine go_add ?_ | refine go_sub ?_ | refine go_int ?_ | refine go_intb ?_ | refine go_abs ?_ | refine go_lent ?_ | refine go_lt ?_ | refine go_le ?_ | refine go_gt ?_ | refine go_ge ?_ | refine go_eqi ?_ | refine go_nei ?_ | refine go_eqs ?_ | refine go_nes ?_ | refine go_tb ?_ | refine go_t ?_ | refine go_f ?_ | (apply go_glo; with_unfolding_all exact rfl) | (apply go_lenl; (first | assumption | exact List.getElem?_set_self (by first | assumption | omega) | exact List.getElem?_concat_length)) | (apply go_lenf; (first | assumption | exact List.getElem?_set_self (by first | assumption | omega) | exact List.getElem?_concat_length)) | (apply go_il; (first | assumption | exact List.getElem?_set_self (by first | assumption | omega) | exact List.getElem?_concat_length); with_unfolding_all exact rfl; with_unfolding_all exact rfl) | (apply go_it; with_unfolding_all exact rfl; with_unfolding_all exact rfl) | (apply go_set; (first | assumption | exact List.getElem?_set_self (by first | assumption | omega) | exact List.getElem?_concat_length); with_unfolding_all exact rfl) | dsimp only [wipeE, List.set_cons_zero, List.set_cons_succ, set_0, set_s]))
  refine draw (m := 2) (by decide) (by decide) P fun v s1 v0 v1 _ c1 => ?_
  repeat (with_reducible (first | refine go_Bnil ?_ | refine go_Bcons ?_ | refine go_asg ?_ | refine go_seti ?_ | refine go_exp ?_ | refine go_ret ?_ | refine go_if ?_ | refine go_var ?_ | refine go_con ?_ | refine go_bin ?_ | refine go_neg ?_ | refine go_cmp ?_ | refine go_chain ?_ | refine go_isN ?_ | refine go_and ?_ | refine go_or ?_ | refine go_not ?_ | refine go_call ?_ | refine go_pr ?_ | refine go_me ?_ | refine go_isi ?_ | refine go_idx ?_ | refine go_sli ?_ | refine go_abs0 ?_ | refine go_tup ?_ | refine go_lst ?_ | refine go_fstr ?_ | refine go_Tcmp ?_ | refine go_Tchain ?_ | refine go_TisN ?_ | refine go_Tand ?_ | refine go_Tor ?_ | refine go_Tnot ?_ | refine go_Ttv ?_ | refine go_nil ?_ | refine go_cons ?_ | refine go_Fnil ?_ | refine go_Fcons ?_ | refine go_comp ?_ | refine go_sq ?_ | refine go_enm ?_ | refine go_rng1 ?_ | refine go_for ?_ | refine go_v0 ?_ | refine go_vs ?_ | refine go_add ?_ | refine go_sub ?_ | refine go_int ?_ | refine go_intb ?_ | refine go_abs ?_ | refine go_lent ?_ | refine go_lt ?_ | refine go_le ?_ | refine go_gt ?_ | refine go_ge ?_ | refine go_eqi ?_ | refine go_nei ?_ | refine go_eqs ?_ | refine go_nes ?_ | refine go_tb ?_ | refine go_t ?_ | refine go_f ?_ | (apply go_glo; with_unfolding_all exact rfl) | (apply go_lenl; (first | assumption | exact List.getElem?_set_self (by first | assumption | omega) | exact List.getElem?_concat_length)) | (apply go_lenf; (first | assumption | exact List.getElem?_set_self (by first | assumption | omega) | exact List.getElem?_concat_length)) | (apply go_il; (first | assumption | exact List.getElem?_set_self (by first | assumption | omega) | exact List.getElem?_concat_length); with_unfolding_all exact rfl; with_unfolding_all exact rfl) | (apply go_it; with_unfolding_all exact rfl; with_unfolding_all exact rfl) | (apply go_set; (first | assumption | exact List.getElem?_set_self (by first | assumption | omega) | exact List.getElem?_concat_length); with_unfolding_all exact rfl) | dsimp only [wipeE, List.set_cons_zero, List.set_cons_succ, set_0, set_s]))
  refine draw (m := 2) (by decide) (by decide) c1.pool fun w s2 w0 w1 _ c2 => ?_
  repeat (with_reducible (first | refine go_Bnil ?_ | refine go_Bcons ?_ | refine go_asg ?_ | refine go_seti ?_ | refine go_exp ?_ | refine go_ret ?_ | refine go_if ?_ | refine go_var ?_ | refine go_con ?_ | refine go_bin ?_ | refine go_neg ?_ | refine go_cmp ?_ | refine go_chain ?_ | refine go_isN ?_ | refine go_and ?_ | refine go_or ?_ | refine go_not ?_ | refine go_call ?_ | refine go_pr ?_ | refine go_me ?_ | refine go_isi ?_ | refine go_idx ?_ | refine go_sli ?_ | refine go_abs0 ?_ | refine go_tup ?_ | refine go_lst ?_ | refine go_fstr ?_ | refine go_Tcmp ?_ | refine go_Tchain ?_ | refine go_TisN ?_ | refine go_Tand ?_ | refine go_Tor ?_ | refine go_Tnot ?_ | refine go_Ttv ?_ | refine go_nil ?_ | refine go_cons ?_ | refine go_Fnil ?_ | refine go_Fcons ?_ | refine go_comp ?_ | refine go_sq ?_ | refine go_enm ?_ | refine go_rng1 ?_ | refine go_for ?_ | refine go_v0 ?_ | refine go_vs ?_ | refine go_add ?_ | refine go_sub ?_ | refine go_int ?_ | refine go_intb ?_ | refine go_abs ?_ | refine go_lent ?_ | refine go_lt ?_ | refine go_le ?_ | refine go_gt ?_ | refine go_ge ?_ | refine go_eqi ?_ | refine go_nei ?_ | refine go_eqs ?_ | refine go_nes ?_ | refine go_tb ?_ | refine go_t ?_ | refine go_f ?_ | (apply go_glo; with_unfolding_all exact rfl) | (apply go_lenl; (first | assumption | exact List.getElem?_set_self (by first | assumption | omega) | exact List.getElem?_concat_length)) | (apply go_lenf; (first | assumption | exact List.getElem?_set_self (by first | assumption | omega) | exact List.getElem?_concat_length)) | (apply go_il; (first | assumption | exact List.getElem?_set_self (by first | assumption | omega) | exact List.getElem?_concat_length); with_unfolding_all exact rfl; with_unfolding_all exact rfl) | (apply go_it; with_unfolding_all exact rfl; with_unfolding_all exact rfl) | (apply go_set; (first | assumption | exact List.getElem?_set_self (by first | assumption | omega) | exact List.getElem?_concat_length); with_unfolding_all exact rfl) | dsimp only [wipeE, List.set_cons_zero, List.set_cons_succ, set_0, set_s]))
  refine go_dc (fun _ => ?_) (fun _ => ?_)
  · repeat (with_reducible (first | refine go_Bnil ?_ | refine go_Bcons ?_ | refine go_asg ?_ | refine go_seti ?_ | refine go_exp ?_ | refine go_ret ?_ | refine go_if ?_ | refine go_var ?_ | refine go_con ?_ | refine go_bin ?_ | refine go_neg ?_ | refine go_cmp ?_ | refine go_chain ?_ | refine go_isN ?_ | refine go_and ?_ | refine go_or ?_ | refine go_not ?_ | refine go_call ?_ | refine go_pr ?_ | refine go_me ?_ | refine go_isi ?_ | refine go_idx ?_ | refine go_sli ?_ | refine go_abs0 ?_ | refine go_tup ?_ | refine go_lst ?_ | refine go_fstr ?_ | refine go_Tcmp ?_ | refine go_Tchain ?_ | refine go_TisN ?_ | refine go_Tand ?_ | refine go_Tor ?_ | refine go_Tnot ?_ | refine go_Ttv ?_ | refine go_nil ?_ | refine go_cons ?_ | refine go_Fnil ?_ | refine go_Fcons ?_ | refine go_comp ?_ | refine go_sq ?_ | refine go_enm ?_ | refine go_rng1 ?_ | refine go_for ?_ | refine go_v0 ?_ | refine go_vs ?_ | refine go_add ?_ | refine go_sub ?_ | refine go_int ?_ | refine go_intb ?_ | refine go_abs ?_ | refine go_lent ?_ | refine go_lt ?_ | refine go_le ?_ | refine go_gt ?_ | refine go_ge ?_ | refine go_eqi ?_ | refine go_nei ?_ | refine go_eqs ?_ | refine go_nes ?_ | refine go_tb ?_ | refine go_t ?_ | refine go_f ?_ | (apply go_glo; with_unfolding_all exact rfl) | (apply go_lenl; (first | assumption | exact List.getElem?_set_self (by first | assumption | omega) | exact List.getElem?_concat_length)) | (apply go_lenf; (first | assumption | exact List.getElem?_set_self (by first | assumption | omega) | exact List.getElem?_concat_length)) | (apply go_il; (first | assumption | exact List.getElem?_set_self (by first | assumption | omega) | exact List.getElem?_concat_length); with_unfolding_all exact rfl; with_unfolding_all exact rfl) | (apply go_it; with_unfolding_all exact rfl; with_unfolding_all exact rfl) | (apply go_set; (first | assumption | exact List.getElem?_set_self (by first | assumption | omega) | exact List.getElem?_concat_length); with_unfolding_all exact rfl) | dsimp only [wipeE, List.set_cons_zero, List.set_cons_succ, set_0, set_s]))
    exact hq _ _ (.inl ⟨v, rfl, v0, v1⟩) (c1.trans c2)
  · repeat (with_reducible (first | refine go_Bnil ?_ | refine go_Bcons ?_ | refine go_asg ?_ | refine go_seti ?_ | refine go_exp ?_ | refine go_ret ?_ | refine go_if ?_ | refine go_var ?_ | refine go_con ?_ | refine go_bin ?_ | refine go_neg ?_ | refine go_cmp ?_ | refine go_chain ?_ | refine go_isN ?_ | refine go_and ?_ | refine go_or ?_ | refine go_not ?_ | refine go_call ?_ | refine go_pr ?_ | refine go_me ?_ | refine go_isi ?_ | refine go_idx ?_ | refine go_sli ?_ | refine go_abs0 ?_ | refine go_tup ?_ | refine go_lst ?_ | refine go_fstr ?_ | refine go_Tcmp ?_ | refine go_Tchain ?_ | refine go_TisN ?_ | refine go_Tand ?_ | refine go_Tor ?_ | refine go_Tnot ?_ | refine go_Ttv ?_ | refine go_nil ?_ | refine go_cons ?_ | refine go_Fnil ?_ | refine go_Fcons ?_ | refine go_comp ?_ | refine go_sq ?_ | refine go_enm ?_ | refine go_rng1 ?_ | refine go_for ?_ | refine go_v0 ?_ | refine go_vs ?_ | refine go_add ?_ | refine go_sub ?_ | refine go_int ?_ | refine go_intb ?_ | refine go_abs ?_ | refine go_lent ?_ | refine go_lt ?_ | refine go_le ?_ | refine go_gt ?_ | refine go_ge ?_ | refine go_eqi ?_ | refine go_nei ?_ | refine go_eqs ?_ | refine go_nes ?_ | refine go_tb ?_ | refine go_t ?_ | refine go_f ?_ | (apply go_glo; with_unfolding_all exact rfl) | (apply go_lenl; (first | assumption | exact List.getElem?_set_self (by first | assumption | omega) | exact List.getElem?_concat_length)) | (apply go_lenf; (first | assumption | exact List.getElem?_set_self (by first | assumption | omega) | exact List.getElem?_concat_length)) | (apply go_il; (first | assumption | exact List.getElem?_set_self (by first | assumption | omega) | exact List.getElem?_concat_length); with_unfolding_all exact rfl; with_unfolding_all exact rfl) | (apply go_it; with_unfolding_all exact rfl; with_unfolding_all exact rfl) | (apply go_set; (first | assumption | exact List.getElem?_set_self (by first | assumption | omega) | exact List.getElem?_concat_length); with_unfolding_all exact rfl) | dsimp only [wipeE, List.set_cons_zero, List.set_cons_succ, set_0, set_s]))
    refine call c2.pool fun d s3 id c3 => ?_
    repeat (with_reducible (first | refine go_Bnil ?_ | refine go_Bcons ?_ | refine go_asg ?_ | refine go_seti ?_ | refine go_exp ?_ | refine go_ret ?_ | refine go_if ?_ | refine go_var ?_ | refine go_con ?_ | refine go_bin ?_ | refine go_neg ?_ | refine go_cmp ?_ | refine go_chain ?_ | refine go_isN ?_ | refine go_and ?_ | refine go_or ?_ | refine go_not ?_ | refine go_call ?_ | refine go_pr ?_ | refine go_me ?_ | refine go_isi ?_ | refine go_idx ?_ | refine go_sli ?_ | refine go_abs0 ?_ | refine go_tup ?_ | refine go_lst ?_ | refine go_fstr ?_ | refine go_Tcmp ?_ | refine go_Tchain ?_ | refine go_TisN ?_ | refine go_Tand ?_ | refine go_Tor ?_ | refine go_Tnot ?_ | refine go_Ttv ?_ | refine go_nil ?_ | refine go_cons ?_ | refine go_Fnil ?_ | refine go_Fcons ?_ | refine go_comp ?_ | refine go_sq ?_ | refine go_enm ?_ | refine go_rng1 ?_ | refine go_for ?_ | refine go_v0 ?_ | refine go_vs ?_ | refine go_add ?_ | refine go_sub ?_ | refine go_int ?_ | refine go_intb ?_ | refine go_abs ?_ | refine go_lent ?_ | refine go_lt ?_ | refine go_le ?_ | refine go_gt ?_ | refine go_ge ?_ | refine go_eqi ?_ | refine go_nei ?_ | refine go_eqs ?_ | refine go_nes ?_ | refine go_tb ?_ | refine go_t ?_ | refine go_f ?_ | (apply go_glo; with_unfolding_all exact rfl) | (apply go_lenl; (first | assumption | exact List.getElem?_set_self (by first | assumption | omega) | exact List.getElem?_concat_length)) | (apply go_lenf; (first | assumption | exact List.getElem?_set_self (by first | assumption | omega) | exact List.getElem?_concat_length)) | (apply go_il; (first | assumption | exact List.getElem?_set_self (by first | assumption | omega) | exact List.getElem?_concat_length); with_unfolding_all exact rfl; with_unfolding_all exact rfl) | (apply go_it; with_unfolding_all exact rfl; with_unfolding_all exact rfl) | (apply go_set; (first | assumption | exact List.getElem?_set_self (by first | assumption | omega) | exact List.getElem?_concat_length); with_unfolding_all exact rfl) | dsimp only [wipeE, List.set_cons_zero, List.set_cons_succ, set_0, set_s]))
    exact hq _ _ (.inr ⟨v, d, rfl, v0, v1, id⟩) ((c1.trans c2).trans c3)
end Y.K_k17
set_option linter.all false
set_option maxHeartbeats 4000000
set_option maxRecDepth 100000
namespace Y.K_k17
open Y PySem
theorem isint {k : Nat} {n : Int} {st : Store} {Q : QE} {X : QX} (hq : Q (.bl true) st) : Call T (k + 1) 0 [.int n] st Q X := by
  refine call_go f_is_integer.fn rfl rfl ?_
  show wpB T (Call T k) none b_is_integer [some (.int n)] st _
  unfold b_is_integer
  repeat (with_reducible (first | refine go_Bnil ?_ | refine go_Bcons ?_ | refine go_asg ?_ | refine go_seti ?_ | refine go_exp ?_ | refine go_ret ?_ | refine go_if ?_ | refine go_var ?_ | refine go_con ?_ | refine go_bin ?_ | refine go_neg ?_ | refine go_cmp ?_ | refine go_chain ?_ | refine go_isN ?_ | refine go_and ?_ | refine go_or ?_ | refine go_not ?_ | refine go_call ?_ | refine go_pr ?_ | refine go_me ?_ | refine go_isi ?_ | refine go_idx ?_ | refine go_sli ?_ | refine go_abs0 ?_ | refine go_tup ?_ | refine go_lst ?_ | refine go_fstr ?_ | refine go_Tcmp ?_ | refine go_Tchain ?_ | refine go_TisN ?_ | refine go_Tand ?_ | refine go_Tor ?_ | refine go_Tnot ?_ | refine go_Ttv ?_ | refine go_nil ?_ | refine go_cons ?_ | refine go_Fnil ?_ | refine go_Fcons ?_ | refine go_comp ?_ | refine go_sq ?_ | refine go_enm ?_ | refine go_rng1 ?_ | refine go_for ?_ | refine go_v0 ?_ | refine go_vs ?_ | refine go_add ?_ | refine go_sub ?_ | refine go_int ?_ | refine go_intb ?_ | refine go_abs ?_ | refine go_lent ?_ | refine go_lt ?_ | refine go_le ?_ | refine go_gt ?_ | refine go_ge ?_ | refine go_eqi ?_ | refine go_nei ?_ | refine go_eqs ?_ | refine go_nes ?_ | refine go_tb ?_ | refine go_t ?_ | refine go_f ?_ | (apply go_glo; with_unfolding_all exact rfl) | (apply go_lenl; (first | assumption | exact List.getElem?_set_self (by first | assumption | omega) | exact List.getElem?_concat_length)) | (apply go_lenf; (first | assumption | exact List.getElem?_set_self (by first | assumption | omega) | exact List.getElem?_concat_length)) | (apply go_il; (first | assumption | exact List.getElem?_set_self (by first | assumption | omega) | exact List.getElem?_concat_length); with_unfolding_all exact rfl; with_unfolding_all exact rfl) | (apply go_it; with_unfolding_all exact rfl; with_unfolding_all exact rfl) | (apply go_set; (first | assumption | exact List.getElem?_set_self (by first | assumption | omega) | exact List.getElem?_concat_length); with_unfolding_all exact rfl) | (apply go_bt; with_unfolding_all exact rfl) | (apply go_bf; with_unfolding_all exact rfl) | refine And.intro (by with_unfolding_all exact rfl) ?_ | dsimp only [wipeE, List.set_cons_zero, List.set_cons_succ, set_0, set_s]))
  exact hq
theorem small {k : Nat} {n m : Int} {st : Store} {Q : QE} {X : QX} (h0 : 0 ≤ n) (h1 : n ≤ m) (hq : Q (.bl true) st) : Call T (k + 2) 2 [.int n, .int m] st Q X := by
  refine call_go f_is_small.fn rfl rfl ?_
  show wpB T (Call T (k + 1)) none b_is_small [some (.int n), some (.int m)] st _
  unfold b_is_small
  repeat (with_reducible (first | refine go_Bnil ?_ | refine go_Bcons ?_ | refine go_asg ?_ | refine go_seti ?_ | refine go_exp ?_ | refine go_ret ?_ | refine go_if ?_ | refine go_var ?_ | refine go_con ?_ | refine go_bin ?_ | refine go_neg ?_ | refine go_cmp ?_ | refine go_chain ?_ | refine go_isN ?_ | refine go_and ?_ | refine go_or ?_ | refine go_not ?_ | refine go_call ?_ | refine go_pr ?_ | refine go_me ?_ | refine go_isi ?_ | refine go_idx ?_ | refine go_sli ?_ | refine go_abs0 ?_ | refine go_tup ?_ | refine go_lst ?_ | refine go_fstr ?_ | refine go_Tcmp ?_ | refine go_Tchain ?_ | refine go_TisN ?_ | refine go_Tand ?_ | refine go_Tor ?_ | refine go_Tnot ?_ | refine go_Ttv ?_ | refine go_nil ?_ | refine go_cons ?_ | refine go_Fnil ?_ | refine go_Fcons ?_ | refine go_comp ?_ | refine go_sq ?_ | refine go_enm ?_ | refine go_rng1 ?_ | refine go_for ?_ | refine go_v0 ?_ | refine go_vs ?_ | refine go_add ?_ | refine go_sub ?_ | refine go_int ?_ | refine go_intb ?_ | refine go_abs ?_ | refine go_lent ?_ | refine go_lt ?_ | refine go_le ?_ | refine go_gt ?_ | refine go_ge ?_ | refine go_eqi ?_ | refine go_nei ?_ | refine go_eqs ?_ | refine go_nes ?_ | refine go_tb ?_ | refine go_t ?_ | refine go_f ?_ | (apply go_glo; with_unfolding_all exact rfl) | (apply go_lenl; (first | assumption | exact List.getElem?_set_self (by first | assumption | omega) | exact List.getElem?_concat_length)) | (apply go_lenf; (first | assumption | exact List.getElem?_set_self (by first | assumption | omega) | exact List.getElem?_concat_length)) | (apply go_il; (first | assumption | exact List.getElem?_set_self (by first | assumption | omega) | exact List.getElem?_concat_length); with_unfolding_all exact rfl; with_unfolding_all exact rfl) | (apply go_it; with_unfolding_all exact rfl; with_unfolding_all exact rfl) | (apply go_set; (first | assumption | exact List.getElem?_set_self (by first | assumption | omega) | exact List.getElem?_concat_length); with_unfolding_all exact rfl) | (apply go_bt; with_unfolding_all exact rfl) | (apply go_bf; with_unfolding_all exact rfl) | refine And.intro (by with_unfolding_all exact rfl) ?_ | dsimp only [wipeE, List.set_cons_zero, List.set_cons_succ, set_0, set_s]))
  refine isint ?_
  repeat (with_reducible (first | refine go_Bnil ?_ | refine go_Bcons ?_ | refine go_asg ?_ | refine go_seti ?_ | refine go_exp ?_ | refine go_ret ?_ | refine go_if ?_ | refine go_var ?_ | refine go_con ?_ | refine go_bin ?_ | refine go_neg ?_ | refine go_cmp ?_ | refine go_chain ?_ | refine go_isN ?_ | refine go_and ?_ | refine go_or ?_ | refine go_not ?_ | refine go_call ?_ | refine go_pr ?_ | refine go_me ?_ | refine go_isi ?_ | refine go_idx ?_ | refine go_sli ?_ | refine go_abs0 ?_ | refine go_tup ?_ | refine go_lst ?_ | refine go_fstr ?_ | refine go_Tcmp ?_ | refine go_Tchain ?_ | refine go_TisN ?_ | refine go_Tand ?_ | refine go_Tor ?_ | refine go_Tnot ?_ | refine go_Ttv ?_ | refine go_nil ?_ | refine go_cons ?_ | refine go_Fnil ?_ | refine go_Fcons ?_ | refine go_comp ?_ | refine go_sq ?_ | refine go_enm ?_ | refine go_rng1 ?_ | refine go_for ?_ | refine go_v0 ?_ | refine go_vs ?_ | refine go_add ?_ | refine go_sub ?_ | refine go_int ?_ | refine go_intb ?_ | refine go_abs ?_ | refine go_lent ?_ | refine go_lt ?_ | refine go_le ?_ | refine go_gt ?_ | refine go_ge ?_ | refine go_eqi ?_ | refine go_nei ?_ | refine go_eqs ?_ | refine go_nes ?_ | refine go_tb ?_ | refine go_t ?_ | refine go_f ?_ | (apply go_glo; with_unfolding_all exact rfl) | (apply go_lenl; (first | assumption | exact List.getElem?_set_self (by first | assumption | omega) | exact List.getElem?_concat_length)) | (apply go_lenf; (first | assumption | exact List.getElem?_set_self (by first | assumption | omega) | exact List.getElem?_concat_length)) | (apply go_il; (first | assumption | exact List.getElem?_set_self (by first | assumption | omega) | exact List.getElem?_concat_length); with_unfolding_all exact rfl; with_unfolding_all exact rfl) | (apply go_it; with_unfolding_all exact rfl; with_unfolding_all exact rfl) | (apply go_set; (first | assumption | exact List.getElem?_set_self (by first | assumption | omega) | exact List.getElem?_concat_length); with_unfolding_all exact rfl) | (apply go_bt; with_unfolding_all exact rfl) | (apply go_bf; with_unfolding_all exact rfl) | refine And.intro (by with_unfolding_all exact rfl) ?_ | dsimp only [wipeE, List.set_cons_zero, List.set_cons_succ, set_0, set_s]))
  refine go_dt h0 ?_
  repeat (with_reducible (first | refine go_Bnil ?_ | refine go_Bcons ?_ | refine go_asg ?_ | refine go_seti ?_ | refine go_exp ?_ | refine go_ret ?_ | refine go_if ?_ | refine go_var ?_ | refine go_con ?_ | refine go_bin ?_ | refine go_neg ?_ | refine go_cmp ?_ | refine go_chain ?_ | refine go_isN ?_ | refine go_and ?_ | refine go_or ?_ | refine go_not ?_ | refine go_call ?_ | refine go_pr ?_ | refine go_me ?_ | refine go_isi ?_ | refine go_idx ?_ | refine go_sli ?_ | refine go_abs0 ?_ | refine go_tup ?_ | refine go_lst ?_ | refine go_fstr ?_ | refine go_Tcmp ?_ | refine go_Tchain ?_ | refine go_TisN ?_ | refine go_Tand ?_ | refine go_Tor ?_ | refine go_Tnot ?_ | refine go_Ttv ?_ | refine go_nil ?_ | refine go_cons ?_ | refine go_Fnil ?_ | refine go_Fcons ?_ | refine go_comp ?_ | refine go_sq ?_ | refine go_enm ?_ | refine go_rng1 ?_ | refine go_for ?_ | refine go_v0 ?_ | refine go_vs ?_ | refine go_add ?_ | refine go_sub ?_ | refine go_int ?_ | refine go_intb ?_ | refine go_abs ?_ | refine go_lent ?_ | refine go_lt ?_ | refine go_le ?_ | refine go_gt ?_ | refine go_ge ?_ | refine go_eqi ?_ | refine go_nei ?_ | refine go_eqs ?_ | refine go_nes ?_ | refine go_tb ?_ | refine go_t ?_ | refine go_f ?_ | (apply go_glo; with_unfolding_all exact rfl) | (apply go_lenl; (first | assumption | exact List.getElem?_set_self (by first | assumption | omega) | exact List.getElem?_concat_length)) | (apply go_lenf; (first | assumption | exact List.getElem?_set_self (by first | assumption | omega) | exact List.getElem?_concat_length)) | (apply go_il; (first | assumption | exact List.getElem?_set_self (by first | assumption | omega) | exact List.getElem?_concat_length); with_unfolding_all exact rfl; with_unfolding_all exact rfl) | (apply go_it; with_unfolding_all exact rfl; with_unfolding_all exact rfl) | (apply go_set; (first | assumption | exact List.getElem?_set_self (by first | assumption | omega) | exact List.getElem?_concat_length); with_unfolding_all exact rfl) | (apply go_bt; with_unfolding_all exact rfl) | (apply go_bf; with_unfolding_all exact rfl) | refine And.intro (by with_unfolding_all exact rfl) ?_ | dsimp only [wipeE, List.set_cons_zero, List.set_cons_succ, set_0, set_s]))
  rw [decide_eq_true h1]
  exact hq
end Y.K_k17
set_option linter.all false
set_option maxHeartbeats 4000000
set_option maxRecDepth 100000
namespace Y.K_k17
open Y PySem
theorem IsName.fits {x : List Nat} (h : IsName x) : x.length ≤ line := Nat.le_trans h.hi (by decide)
theorem inLetters : ∀ c ∈ az, (!(Builtin.Str.occurrences ⟨az.toArray⟩ ⟨[c].toArray⟩ 0 az.length 1).isEmpty) = true := by decide +kernel
theorem isname {k : Nat} {x : List Nat} {st : Store} {Q : QE} {X : QX} (hx : IsName x) (hq : Q (.bl true) st) : Call T (k + 1) 1 [.str x] st Q X := by
  refine call_go f_is_name.fn rfl rfl ?_
  show wpB T (Call T k) none b_is_name [some (.str x), none] st _
  unfold b_is_name
  repeat (with_reducible (first | refine go_Bnil ?_ | refine go_Bcons ?_ | refine go_asg ?_ | refine go_seti ?_ | refine go_exp ?_ | refine go_ret ?_ | refine go_if ?_ | refine go_var ?_ | refine go_con ?_ | refine go_bin ?_ | refine go_neg ?_ | refine go_cmp ?_ | refine go_chain ?_ | refine go_isN ?_ | refine go_and ?_ | refine go_or ?_ | refine go_not ?_ | refine go_call ?_ | refine go_pr ?_ | refine go_me ?_ | refine go_isi ?_ | refine go_idx ?_ | refine go_sli ?_ | refine go_abs0 ?_ | refine go_tup ?_ | refine go_lst ?_ | refine go_fstr ?_ | refine go_Tcmp ?_ | refine go_Tchain ?_ | refine go_TisN ?_ | refine go_Tand ?_ | refine go_Tor ?_ | refine go_Tnot ?_ | refine go_Ttv ?_ | refine go_nil ?_ | refine go_cons ?_ | refine go_Fnil ?_ | refine go_Fcons ?_ | refine go_comp ?_ | refine go_sq ?_ | refine go_enm ?_ | refine go_rng1 ?_ | refine go_for ?_ | refine go_v0 ?_ | refine go_vs ?_ | refine go_add ?_ | refine go_sub ?_ | refine go_int ?_ | refine go_intb ?_ | refine go_abs ?_ | refine go_lent ?_ | refine go_lt ?_ | refine go_le ?_ | refine go_gt ?_ | refine go_ge ?_ | refine go_eqi ?_ | refine go_nei ?_ | refine go_eqs ?_ | refine go_nes ?_ | refine go_tb ?_ | refine go_t ?_ | refine go_f ?_ | refine go_ptS ?_ | refine go_ptN ?_ | (apply go_glo; with_unfolding_all exact rfl) | (apply go_lenl; (first | assumption | exact List.getElem?_set_self (by first | assumption | omega) | exact List.getElem?_concat_length)) | (apply go_lenf; (first | assumption | exact List.getElem?_set_self (by first | assumption | omega) | exact List.getElem?_concat_length)) | (apply go_il; (first | assumption | exact List.getElem?_set_self (by first | assumption | omega) | exact List.getElem?_concat_length); with_unfolding_all exact rfl; with_unfolding_all exact rfl) | (apply go_it; with_unfolding_all exact rfl; with_unfolding_all exact rfl) | (apply go_set; (first | assumption | exact List.getElem?_set_self (by first | assumption | omega) | exact List.getElem?_concat_length); with_unfolding_all exact rfl) | (apply go_bt; with_unfolding_all exact rfl) | (apply go_bf; with_unfolding_all exact rfl) | refine And.intro (by with_unfolding_all exact rfl) ?_ | dsimp only [wipeE, List.set_cons_zero, List.set_cons_succ, set_0, set_s]))
  refine go_lens hx.fits ?_
  repeat (with_reducible (first | refine go_Bnil ?_ | refine go_Bcons ?_ | refine go_asg ?_ | refine go_seti ?_ | refine go_exp ?_ | refine go_ret ?_ | refine go_if ?_ | refine go_var ?_ | refine go_con ?_ | refine go_bin ?_ | refine go_neg ?_ | refine go_cmp ?_ | refine go_chain ?_ | refine go_isN ?_ | refine go_and ?_ | refine go_or ?_ | refine go_not ?_ | refine go_call ?_ | refine go_pr ?_ | refine go_me ?_ | refine go_isi ?_ | refine go_idx ?_ | refine go_sli ?_ | refine go_abs0 ?_ | refine go_tup ?_ | refine go_lst ?_ | refine go_fstr ?_ | refine go_Tcmp ?_ | refine go_Tchain ?_ | refine go_TisN ?_ | refine go_Tand ?_ | refine go_Tor ?_ | refine go_Tnot ?_ | refine go_Ttv ?_ | refine go_nil ?_ | refine go_cons ?_ | refine go_Fnil ?_ | refine go_Fcons ?_ | refine go_comp ?_ | refine go_sq ?_ | refine go_enm ?_ | refine go_rng1 ?_ | refine go_for ?_ | refine go_v0 ?_ | refine go_vs ?_ | refine go_add ?_ | refine go_sub ?_ | refine go_int ?_ | refine go_intb ?_ | refine go_abs ?_ | refine go_lent ?_ | refine go_lt ?_ | refine go_le ?_ | refine go_gt ?_ | refine go_ge ?_ | refine go_eqi ?_ | refine go_nei ?_ | refine go_eqs ?_ | refine go_nes ?_ | refine go_tb ?_ | refine go_t ?_ | refine go_f ?_ | refine go_ptS ?_ | refine go_ptN ?_ | (apply go_glo; with_unfolding_all exact rfl) | (apply go_lenl; (first | assumption | exact List.getElem?_set_self (by first | assumption | omega) | exact List.getElem?_concat_length)) | (apply go_lenf; (first | assumption | exact List.getElem?_set_self (by first | assumption | omega) | exact List.getElem?_concat_length)) | (apply go_il; (first | assumption | exact List.getElem?_set_self (by first | assumption | omega) | exact List.getElem?_concat_length); with_unfolding_all exact rfl; with_unfolding_all exact rfl) | (apply go_it; with_unfolding_all exact rfl; with_unfolding_all exact rfl) | (apply go_set; (first | assumption | exact List.getElem?_set_self (by first | assumption | omega) | exact List.getElem?_concat_length); with_unfolding_all exact rfl) | (apply go_bt; with_unfolding_all exact rfl) | (apply go_bf; with_unfolding_all exact rfl) | refine And.intro (by with_unfolding_all exact rfl) ?_ | dsimp only [wipeE, List.set_cons_zero, List.set_cons_succ, set_0, set_s]))
  refine go_dt (by have := hx.lo; omega) ?_
  repeat (with_reducible (first | refine go_Bnil ?_ | refine go_Bcons ?_ | refine go_asg ?_ | refine go_seti ?_ | refine go_exp ?_ | refine go_ret ?_ | refine go_if ?_ | refine go_var ?_ | refine go_con ?_ | refine go_bin ?_ | refine go_neg ?_ | refine go_cmp ?_ | refine go_chain ?_ | refine go_isN ?_ | refine go_and ?_ | refine go_or ?_ | refine go_not ?_ | refine go_call ?_ | refine go_pr ?_ | refine go_me ?_ | refine go_isi ?_ | refine go_idx ?_ | refine go_sli ?_ | refine go_abs0 ?_ | refine go_tup ?_ | refine go_lst ?_ | refine go_fstr ?_ | refine go_Tcmp ?_ | refine go_Tchain ?_ | refine go_TisN ?_ | refine go_Tand ?_ | refine go_Tor ?_ | refine go_Tnot ?_ | refine go_Ttv ?_ | refine go_nil ?_ | refine go_cons ?_ | refine go_Fnil ?_ | refine go_Fcons ?_ | refine go_comp ?_ | refine go_sq ?_ | refine go_enm ?_ | refine go_rng1 ?_ | refine go_for ?_ | refine go_v0 ?_ | refine go_vs ?_ | refine go_add ?_ | refine go_sub ?_ | refine go_int ?_ | refine go_intb ?_ | refine go_abs ?_ | refine go_lent ?_ | refine go_lt ?_ | refine go_le ?_ | refine go_gt ?_ | refine go_ge ?_ | refine go_eqi ?_ | refine go_nei ?_ | refine go_eqs ?_ | refine go_nes ?_ | refine go_tb ?_ | refine go_t ?_ | refine go_f ?_ | refine go_ptS ?_ | refine go_ptN ?_ | (apply go_glo; with_unfolding_all exact rfl) | (apply go_lenl; (first | assumption | exact List.getElem?_set_self (by first | assumption | omega) | exact List.getElem?_concat_length)) | (apply go_lenf; (first | assumption | exact List.getElem?_set_self (by first | assumption | omega) | exact List.getElem?_concat_length)) | (apply go_il; (first | assumption | exact List.getElem?_set_self (by first | assumption | omega) | exact List.getElem?_concat_length); with_unfolding_all exact rfl; with_unfolding_all exact rfl) | (apply go_it; with_unfolding_all exact rfl; with_unfolding_all exact rfl) | (apply go_set; (first | assumption | exact List.getElem?_set_self (by first | assumption | omega) | exact List.getElem?_concat_length); with_unfolding_all exact rfl) | (apply go_bt; with_unfolding_all exact rfl) | (apply go_bf; with_unfolding_all exact rfl) | refine And.intro (by with_unfolding_all exact rfl) ?_ | dsimp only [wipeE, List.set_cons_zero, List.set_cons_succ, set_0, set_s]))
  have h8 : decide ((x.length : Int) ≤ 8) = true := decide_eq_true (by have := hx.hi; omega)
  rw [h8]
  repeat (with_reducible (first | refine go_Bnil ?_ | refine go_Bcons ?_ | refine go_asg ?_ | refine go_seti ?_ | refine go_exp ?_ | refine go_ret ?_ | refine go_if ?_ | refine go_var ?_ | refine go_con ?_ | refine go_bin ?_ | refine go_neg ?_ | refine go_cmp ?_ | refine go_chain ?_ | refine go_isN ?_ | refine go_and ?_ | refine go_or ?_ | refine go_not ?_ | refine go_call ?_ | refine go_pr ?_ | refine go_me ?_ | refine go_isi ?_ | refine go_idx ?_ | refine go_sli ?_ | refine go_abs0 ?_ | refine go_tup ?_ | refine go_lst ?_ | refine go_fstr ?_ | refine go_Tcmp ?_ | refine go_Tchain ?_ | refine go_TisN ?_ | refine go_Tand ?_ | refine go_Tor ?_ | refine go_Tnot ?_ | refine go_Ttv ?_ | refine go_nil ?_ | refine go_cons ?_ | refine go_Fnil ?_ | refine go_Fcons ?_ | refine go_comp ?_ | refine go_sq ?_ | refine go_enm ?_ | refine go_rng1 ?_ | refine go_for ?_ | refine go_v0 ?_ | refine go_vs ?_ | refine go_add ?_ | refine go_sub ?_ | refine go_int ?_ | refine go_intb ?_ | refine go_abs ?_ | refine go_lent ?_ | refine go_lt ?_ | refine go_le ?_ | refine go_gt ?_ | refine go_ge ?_ | refine go_eqi ?_ | refine go_nei ?_ | refine go_eqs ?_ | refine go_nes ?_ | refine go_tb ?_ | refine go_t ?_ | refine go_f ?_ | refine go_ptS ?_ | refine go_ptN ?_ | (apply go_glo; with_unfolding_all exact rfl) | (apply go_lenl; (first | assumption | exact List.getElem?_set_self (by first | assumption | omega) | exact List.getElem?_concat_length)) | (apply go_lenf; (first | assumption | exact List.getElem?_set_self (by first | assumption | omega) | exact List.getElem?_concat_length)) | (apply go_il; (first | assumption | exact List.getElem?_set_self (by first | assumption | omega) | exact List.getElem?_concat_length); with_unfolding_all exact rfl; with_unfolding_all exact rfl) | (apply go_it; with_unfolding_all exact rfl; with_unfolding_all exact rfl) | (apply go_set; (first | assumption | exact List.getElem?_set_self (by first | assumption | omega) | exact List.getElem?_concat_length); with_unfolding_all exact rfl) | (apply go_bt; with_unfolding_all exact rfl) | (apply go_bf; with_unfolding_all exact rfl) | refine And.intro (by with_unfolding_all exact rfl) ?_ | dsimp only [wipeE, List.set_cons_zero, List.set_cons_succ, set_0, set_s]))
  refine ⟨(x.map fun c => D.str [c]).length + 1, for_j _ (fun i env s => s = st ∧ ∃ o, env = [some (.str x), o]) (fun i env s N hi iv hN => ?_) (fun env s iv => ?_) _ 0 _ _ rfl ⟨rfl, _, rfl⟩⟩
  · obtain ⟨rfl, o, rfl⟩ := iv
    rw [List.length_map] at hi
    refine ⟨.str [x[i]], _, ?_, rfl, ?_⟩
    · show some ((x.map fun c => D.str [c])[i]?) = _
      rw [List.getElem?_map, List.getElem?_eq_getElem hi]
      rfl
    · repeat (with_reducible (first | refine go_Bnil ?_ | refine go_Bcons ?_ | refine go_asg ?_ | refine go_seti ?_ | refine go_exp ?_ | refine go_ret ?_ | refine go_if ?_ | refine go_var ?_ | refine go_con ?_ | refine go_bin ?_ | refine go_neg ?_ | refine go_cmp ?_ | refine go_chain ?_ | refine go_isN ?_ | refine go_and ?_ | refine go_or ?_ | refine go_not ?_ | refine go_call ?_ | refine go_pr ?_ | refine go_me ?_ | refine go_isi ?_ | refine go_idx ?_ | refine go_sli ?_ | refine go_abs0 ?_ | refine go_tup ?_ | refine go_lst ?_ | refine go_fstr ?_ | refine go_Tcmp ?_ | refine go_Tchain ?_ | refine go_TisN ?_ | refine go_Tand ?_ | refine go_Tor ?_ | refine go_Tnot ?_ | refine go_Ttv ?_ | refine go_nil ?_ | refine go_cons ?_ | refine go_Fnil ?_ | refine go_Fcons ?_ | refine go_comp ?_ | refine go_sq ?_ | refine go_enm ?_ | refine go_rng1 ?_ | refine go_for ?_ | refine go_v0 ?_ | refine go_vs ?_ | refine go_add ?_ | refine go_sub ?_ | refine go_int ?_ | refine go_intb ?_ | refine go_abs ?_ | refine go_lent ?_ | refine go_lt ?_ | refine go_le ?_ | refine go_gt ?_ | refine go_ge ?_ | refine go_eqi ?_ | refine go_nei ?_ | refine go_eqs ?_ | refine go_nes ?_ | refine go_tb ?_ | refine go_t ?_ | refine go_f ?_ | refine go_ptS ?_ | refine go_ptN ?_ | (apply go_glo; with_unfolding_all exact rfl) | (apply go_lenl; (first | assumption | exact List.getElem?_set_self (by first | assumption | omega) | exact List.getElem?_concat_length)) | (apply go_lenf; (first | assumption | exact List.getElem?_set_self (by first | assumption | omega) | exact List.getElem?_concat_length)) | (apply go_il; (first | assumption | exact List.getElem?_set_self (by first | assumption | omega) | exact List.getElem?_concat_length); with_unfolding_all exact rfl; with_unfolding_all exact rfl) | (apply go_it; with_unfolding_all exact rfl; with_unfolding_all exact rfl) | (apply go_set; (first | assumption | exact List.getElem?_set_self (by first | assumption | omega) | exact List.getElem?_concat_length); with_unfolding_all exact rfl) | (apply go_bt; with_unfolding_all exact rfl) | (apply go_bf; with_unfolding_all exact rfl) | refine And.intro (by with_unfolding_all exact rfl) ?_ | dsimp only [wipeE, List.set_cons_zero, List.set_cons_succ, set_0, set_s]))
      have q := inLetters x[i] (hx.az _ (List.getElem_mem hi))
      refine go_nins q ?_
      repeat (with_reducible (first | refine go_Bnil ?_ | refine go_Bcons ?_ | refine go_asg ?_ | refine go_seti ?_ | refine go_exp ?_ | refine go_ret ?_ | refine go_if ?_ | refine go_var ?_ | refine go_con ?_ | refine go_bin ?_ | refine go_neg ?_ | refine go_cmp ?_ | refine go_chain ?_ | refine go_isN ?_ | refine go_and ?_ | refine go_or ?_ | refine go_not ?_ | refine go_call ?_ | refine go_pr ?_ | refine go_me ?_ | refine go_isi ?_ | refine go_idx ?_ | refine go_sli ?_ | refine go_abs0 ?_ | refine go_tup ?_ | refine go_lst ?_ | refine go_fstr ?_ | refine go_Tcmp ?_ | refine go_Tchain ?_ | refine go_TisN ?_ | refine go_Tand ?_ | refine go_Tor ?_ | refine go_Tnot ?_ | refine go_Ttv ?_ | refine go_nil ?_ | refine go_cons ?_ | refine go_Fnil ?_ | refine go_Fcons ?_ | refine go_comp ?_ | refine go_sq ?_ | refine go_enm ?_ | refine go_rng1 ?_ | refine go_for ?_ | refine go_v0 ?_ | refine go_vs ?_ | refine go_add ?_ | refine go_sub ?_ | refine go_int ?_ | refine go_intb ?_ | refine go_abs ?_ | refine go_lent ?_ | refine go_lt ?_ | refine go_le ?_ | refine go_gt ?_ | refine go_ge ?_ | refine go_eqi ?_ | refine go_nei ?_ | refine go_eqs ?_ | refine go_nes ?_ | refine go_tb ?_ | refine go_t ?_ | refine go_f ?_ | refine go_ptS ?_ | refine go_ptN ?_ | (apply go_glo; with_unfolding_all exact rfl) | (apply go_lenl; (first | assumption | exact List.getElem?_set_self (by first | assumption | omega) | exact List.getElem?_concat_length)) | (apply go_lenf; (first | assumption | exact List.getElem?_set_self (by first | assumption | omega) | exact List.getElem?_concat_length)) | (apply go_il; (first | assumption | exact List.getElem?_set_self (by first | assumption | omega) | exact List.getElem?_concat_length); with_unfolding_all exact rfl; with_unfolding_all exact rfl) | (apply go_it; with_unfolding_all exact rfl; with_unfolding_all exact rfl) | (apply go_set; (first | assumption | exact List.getElem?_set_self (by first | assumption | omega) | exact List.getElem?_concat_length); with_unfolding_all exact rfl) | (apply go_bt; with_unfolding_all exact rfl) | (apply go_bf; with_unfolding_all exact rfl) | refine And.intro (by with_unfolding_all exact rfl) ?_ | dsimp only [wipeE, List.set_cons_zero, List.set_cons_succ, set_0, set_s]))
      exact hN _ _ ⟨rfl, _, rfl⟩
  · obtain ⟨rfl, o, rfl⟩ := iv
    refine ⟨?_, ?_⟩
    · show some ((x.map fun c => D.str [c])[_]?) = _
      rw [List.getElem?_eq_none (by simp)]
    · repeat (with_reducible (first | refine go_Bnil ?_ | refine go_Bcons ?_ | refine go_asg ?_ | refine go_seti ?_ | refine go_exp ?_ | refine go_ret ?_ | refine go_if ?_ | refine go_var ?_ | refine go_con ?_ | refine go_bin ?_ | refine go_neg ?_ | refine go_cmp ?_ | refine go_chain ?_ | refine go_isN ?_ | refine go_and ?_ | refine go_or ?_ | refine go_not ?_ | refine go_call ?_ | refine go_pr ?_ | refine go_me ?_ | refine go_isi ?_ | refine go_idx ?_ | refine go_sli ?_ | refine go_abs0 ?_ | refine go_tup ?_ | refine go_lst ?_ | refine go_fstr ?_ | refine go_Tcmp ?_ | refine go_Tchain ?_ | refine go_TisN ?_ | refine go_Tand ?_ | refine go_Tor ?_ | refine go_Tnot ?_ | refine go_Ttv ?_ | refine go_nil ?_ | refine go_cons ?_ | refine go_Fnil ?_ | refine go_Fcons ?_ | refine go_comp ?_ | refine go_sq ?_ | refine go_enm ?_ | refine go_rng1 ?_ | refine go_for ?_ | refine go_v0 ?_ | refine go_vs ?_ | refine go_add ?_ | refine go_sub ?_ | refine go_int ?_ | refine go_intb ?_ | refine go_abs ?_ | refine go_lent ?_ | refine go_lt ?_ | refine go_le ?_ | refine go_gt ?_ | refine go_ge ?_ | refine go_eqi ?_ | refine go_nei ?_ | refine go_eqs ?_ | refine go_nes ?_ | refine go_tb ?_ | refine go_t ?_ | refine go_f ?_ | refine go_ptS ?_ | refine go_ptN ?_ | (apply go_glo; with_unfolding_all exact rfl) | (apply go_lenl; (first | assumption | exact List.getElem?_set_self (by first | assumption | omega) | exact List.getElem?_concat_length)) | (apply go_lenf; (first | assumption | exact List.getElem?_set_self (by first | assumption | omega) | exact List.getElem?_concat_length)) | (apply go_il; (first | assumption | exact List.getElem?_set_self (by first | assumption | omega) | exact List.getElem?_concat_length); with_unfolding_all exact rfl; with_unfolding_all exact rfl) | (apply go_it; with_unfolding_all exact rfl; with_unfolding_all exact rfl) | (apply go_set; (first | assumption | exact List.getElem?_set_self (by first | assumption | omega) | exact List.getElem?_concat_length); with_unfolding_all exact rfl) | (apply go_bt; with_unfolding_all exact rfl) | (apply go_bf; with_unfolding_all exact rfl) | refine And.intro (by with_unfolding_all exact rfl) ?_ | dsimp only [wipeE, List.set_cons_zero, List.set_cons_succ, set_0, set_s]))
      exact hq
theorem callform {k : Nat} {d : D} {st : Store} {Q : QE} {X : QX} (hd : IsCall d) (hq : Q (.bl true) st) : Call T (k + 3) 3 [d] st Q X := by
  obtain ⟨x, n, rfl, hx, n0, n1⟩ := hd
  refine call_go f_is_call_form.fn rfl rfl ?_
  show wpB T (Call T (k + 2)) none b_is_call_form [some (.tup [.str x, .int n])] st _
  unfold b_is_call_form
  repeat (with_reducible (first | refine go_Bnil ?_ | refine go_Bcons ?_ | refine go_asg ?_ | refine go_seti ?_ | refine go_exp ?_ | refine go_ret ?_ | refine go_if ?_ | refine go_var ?_ | refine go_con ?_ | refine go_bin ?_ | refine go_neg ?_ | refine go_cmp ?_ | refine go_chain ?_ | refine go_isN ?_ | refine go_and ?_ | refine go_or ?_ | refine go_not ?_ | refine go_call ?_ | refine go_pr ?_ | refine go_me ?_ | refine go_isi ?_ | refine go_idx ?_ | refine go_sli ?_ | refine go_abs0 ?_ | refine go_tup ?_ | refine go_lst ?_ | refine go_fstr ?_ | refine go_Tcmp ?_ | refine go_Tchain ?_ | refine go_TisN ?_ | refine go_Tand ?_ | refine go_Tor ?_ | refine go_Tnot ?_ | refine go_Ttv ?_ | refine go_nil ?_ | refine go_cons ?_ | refine go_Fnil ?_ | refine go_Fcons ?_ | refine go_comp ?_ | refine go_sq ?_ | refine go_enm ?_ | refine go_rng1 ?_ | refine go_for ?_ | refine go_v0 ?_ | refine go_vs ?_ | refine go_add ?_ | refine go_sub ?_ | refine go_int ?_ | refine go_intb ?_ | refine go_abs ?_ | refine go_lent ?_ | refine go_lt ?_ | refine go_le ?_ | refine go_gt ?_ | refine go_ge ?_ | refine go_eqi ?_ | refine go_nei ?_ | refine go_eqs ?_ | refine go_nes ?_ | refine go_tb ?_ | refine go_t ?_ | refine go_f ?_ | refine go_ptS ?_ | refine go_ptN ?_ | (apply go_glo; with_unfolding_all exact rfl) | (apply go_lenl; (first | assumption | exact List.getElem?_set_self (by first | assumption | omega) | exact List.getElem?_concat_length)) | (apply go_lenf; (first | assumption | exact List.getElem?_set_self (by first | assumption | omega) | exact List.getElem?_concat_length)) | (apply go_il; (first | assumption | exact List.getElem?_set_self (by first | assumption | omega) | exact List.getElem?_concat_length); with_unfolding_all exact rfl; with_unfolding_all exact rfl) | (apply go_it; with_unfolding_all exact rfl; with_unfolding_all exact rfl) | (apply go_set; (first | assumption | exact List.getElem?_set_self (by first | assumption | omega) | exact List.getElem?_concat_length); with_unfolding_all exact rfl) | (apply go_bt; with_unfolding_all exact rfl) | (apply go_bf; with_unfolding_all exact rfl) | refine And.intro (by with_unfolding_all exact rfl) ?_ | dsimp only [wipeE, List.set_cons_zero, List.set_cons_succ, set_0, set_s]))
  refine isname hx ?_
  repeat (with_reducible (first | refine go_Bnil ?_ | refine go_Bcons ?_ | refine go_asg ?_ | refine go_seti ?_ | refine go_exp ?_ | refine go_ret ?_ | refine go_if ?_ | refine go_var ?_ | refine go_con ?_ | refine go_bin ?_ | refine go_neg ?_ | refine go_cmp ?_ | refine go_chain ?_ | refine go_isN ?_ | refine go_and ?_ | refine go_or ?_ | refine go_not ?_ | refine go_call ?_ | refine go_pr ?_ | refine go_me ?_ | refine go_isi ?_ | refine go_idx ?_ | refine go_sli ?_ | refine go_abs0 ?_ | refine go_tup ?_ | refine go_lst ?_ | refine go_fstr ?_ | refine go_Tcmp ?_ | refine go_Tchain ?_ | refine go_TisN ?_ | refine go_Tand ?_ | refine go_Tor ?_ | refine go_Tnot ?_ | refine go_Ttv ?_ | refine go_nil ?_ | refine go_cons ?_ | refine go_Fnil ?_ | refine go_Fcons ?_ | refine go_comp ?_ | refine go_sq ?_ | refine go_enm ?_ | refine go_rng1 ?_ | refine go_for ?_ | refine go_v0 ?_ | refine go_vs ?_ | refine go_add ?_ | refine go_sub ?_ | refine go_int ?_ | refine go_intb ?_ | refine go_abs ?_ | refine go_lent ?_ | refine go_lt ?_ | refine go_le ?_ | refine go_gt ?_ | refine go_ge ?_ | refine go_eqi ?_ | refine go_nei ?_ | refine go_eqs ?_ | refine go_nes ?_ | refine go_tb ?_ | refine go_t ?_ | refine go_f ?_ | refine go_ptS ?_ | refine go_ptN ?_ | (apply go_glo; with_unfolding_all exact rfl) | (apply go_lenl; (first | assumption | exact List.getElem?_set_self (by first | assumption | omega) | exact List.getElem?_concat_length)) | (apply go_lenf; (first | assumption | exact List.getElem?_set_self (by first | assumption | omega) | exact List.getElem?_concat_length)) | (apply go_il; (first | assumption | exact List.getElem?_set_self (by first | assumption | omega) | exact List.getElem?_concat_length); with_unfolding_all exact rfl; with_unfolding_all exact rfl) | (apply go_it; with_unfolding_all exact rfl; with_unfolding_all exact rfl) | (apply go_set; (first | assumption | exact List.getElem?_set_self (by first | assumption | omega) | exact List.getElem?_concat_length); with_unfolding_all exact rfl) | (apply go_bt; with_unfolding_all exact rfl) | (apply go_bf; with_unfolding_all exact rfl) | refine And.intro (by with_unfolding_all exact rfl) ?_ | dsimp only [wipeE, List.set_cons_zero, List.set_cons_succ, set_0, set_s]))
  refine small n0 (by omega) ?_
  repeat (with_reducible (first | refine go_Bnil ?_ | refine go_Bcons ?_ | refine go_asg ?_ | refine go_seti ?_ | refine go_exp ?_ | refine go_ret ?_ | refine go_if ?_ | refine go_var ?_ | refine go_con ?_ | refine go_bin ?_ | refine go_neg ?_ | refine go_cmp ?_ | refine go_chain ?_ | refine go_isN ?_ | refine go_and ?_ | refine go_or ?_ | refine go_not ?_ | refine go_call ?_ | refine go_pr ?_ | refine go_me ?_ | refine go_isi ?_ | refine go_idx ?_ | refine go_sli ?_ | refine go_abs0 ?_ | refine go_tup ?_ | refine go_lst ?_ | refine go_fstr ?_ | refine go_Tcmp ?_ | refine go_Tchain ?_ | refine go_TisN ?_ | refine go_Tand ?_ | refine go_Tor ?_ | refine go_Tnot ?_ | refine go_Ttv ?_ | refine go_nil ?_ | refine go_cons ?_ | refine go_Fnil ?_ | refine go_Fcons ?_ | refine go_comp ?_ | refine go_sq ?_ | refine go_enm ?_ | refine go_rng1 ?_ | refine go_for ?_ | refine go_v0 ?_ | refine go_vs ?_ | refine go_add ?_ | refine go_sub ?_ | refine go_int ?_ | refine go_intb ?_ | refine go_abs ?_ | refine go_lent ?_ | refine go_lt ?_ | refine go_le ?_ | refine go_gt ?_ | refine go_ge ?_ | refine go_eqi ?_ | refine go_nei ?_ | refine go_eqs ?_ | refine go_nes ?_ | refine go_tb ?_ | refine go_t ?_ | refine go_f ?_ | refine go_ptS ?_ | refine go_ptN ?_ | (apply go_glo; with_unfolding_all exact rfl) | (apply go_lenl; (first | assumption | exact List.getElem?_set_self (by first | assumption | omega) | exact List.getElem?_concat_length)) | (apply go_lenf; (first | assumption | exact List.getElem?_set_self (by first | assumption | omega) | exact List.getElem?_concat_length)) | (apply go_il; (first | assumption | exact List.getElem?_set_self (by first | assumption | omega) | exact List.getElem?_concat_length); with_unfolding_all exact rfl; with_unfolding_all exact rfl) | (apply go_it; with_unfolding_all exact rfl; with_unfolding_all exact rfl) | (apply go_set; (first | assumption | exact List.getElem?_set_self (by first | assumption | omega) | exact List.getElem?_concat_length); with_unfolding_all exact rfl) | (apply go_bt; with_unfolding_all exact rfl) | (apply go_bf; with_unfolding_all exact rfl) | refine And.intro (by with_unfolding_all exact rfl) ?_ | dsimp only [wipeE, List.set_cons_zero, List.set_cons_succ, set_0, set_s]))
  exact hq
end Y.K_k17
set_option linter.all false
set_option maxHeartbeats 4000000
set_option maxRecDepth 100000
namespace Y.K_k17
open Y PySem
theorem nine {n : Int} (h0 : 0 ≤ n) (h1 : n < 9) : n = 0 ∨ n = 1 ∨ n = 2 ∨ n = 3 ∨ n = 4 ∨ n = 5 ∨ n = 6 ∨ n = 7 ∨ n = 8 := by omega
def dg (n : Int) : List Nat := [48 + n.toNat]
theorem dec_dg {n : Int} (h0 : 0 ≤ n) (h1 : n < 9) : decI n = dg n := by
  rcases nine h0 h1 with e | e | e | e | e | e | e | e | e <;> subst e <;> decide +kernel
theorem log_ok {n : Int} (h0 : 0 ≤ n) (h1 : n < 9) : n.natAbs.log2 < 1920 := by
  rcases nine h0 h1 with e | e | e | e | e | e | e | e | e <;> subst e <;> decide +kernel
def ct (x : List Nat) (n : Int) : List Nat := x ++ [32] ++ dg n
theorem ct_len {x : List Nat} {n : Int} (h : IsName x) : (ct x n).length ≤ 10 := by
  unfold ct dg
  simp
  have := h.hi
  omega
theorem big {a : Nat} (h : a ≤ 1000000) : a ≤ line := Nat.le_trans h (by decide)
theorem callwords {k : Nat} {x : List Nat} {n : Int} {st : Store} {Q : QE} {X : QX} (hx : IsName x) (n0 : 0 ≤ n) (n1 : n < 9) (hq : Q (.str (ct x n)) st) : Call T (k + 1) 4 [.tup [.str x, .int n]] st Q X := by
  refine call_go f_call_words.fn rfl rfl ?_
  show wpB T (Call T k) none b_call_words [some (.tup [.str x, .int n])] st _
  unfold b_call_words
  have h8 := hx.hi
  repeat (with_reducible (first | refine go_Bnil ?_ | refine go_Bcons ?_ | refine go_asg ?_ | refine go_seti ?_ | refine go_exp ?_ | refine go_ret ?_ | refine go_if ?_ | refine go_var ?_ | refine go_con ?_ | refine go_bin ?_ | refine go_neg ?_ | refine go_cmp ?_ | refine go_chain ?_ | refine go_isN ?_ | refine go_and ?_ | refine go_or ?_ | refine go_not ?_ | refine go_call ?_ | refine go_pr ?_ | refine go_me ?_ | refine go_isi ?_ | refine go_idx ?_ | refine go_sli ?_ | refine go_abs0 ?_ | refine go_tup ?_ | refine go_lst ?_ | refine go_fstr ?_ | refine go_Tcmp ?_ | refine go_Tchain ?_ | refine go_TisN ?_ | refine go_Tand ?_ | refine go_Tor ?_ | refine go_Tnot ?_ | refine go_Ttv ?_ | refine go_nil ?_ | refine go_cons ?_ | refine go_Fnil ?_ | refine go_Fcons ?_ | refine go_comp ?_ | refine go_sq ?_ | refine go_enm ?_ | refine go_rng1 ?_ | refine go_for ?_ | refine go_v0 ?_ | refine go_vs ?_ | refine go_add ?_ | refine go_sub ?_ | refine go_int ?_ | refine go_intb ?_ | refine go_abs ?_ | refine go_lent ?_ | refine go_lt ?_ | refine go_le ?_ | refine go_gt ?_ | refine go_ge ?_ | refine go_eqi ?_ | refine go_nei ?_ | refine go_eqs ?_ | refine go_nes ?_ | refine go_tb ?_ | refine go_t ?_ | refine go_f ?_ | refine go_ptS ?_ | refine go_ptN ?_ | (apply go_glo; with_unfolding_all exact rfl) | (apply go_lenl; (first | assumption | exact List.getElem?_set_self (by first | assumption | omega) | exact List.getElem?_concat_length)) | (apply go_lenf; (first | assumption | exact List.getElem?_set_self (by first | assumption | omega) | exact List.getElem?_concat_length)) | (apply go_il; (first | assumption | exact List.getElem?_set_self (by first | assumption | omega) | exact List.getElem?_concat_length); with_unfolding_all exact rfl; with_unfolding_all exact rfl) | (apply go_it; with_unfolding_all exact rfl; with_unfolding_all exact rfl) | (apply go_set; (first | assumption | exact List.getElem?_set_self (by first | assumption | omega) | exact List.getElem?_concat_length); with_unfolding_all exact rfl) | (apply go_bt; with_unfolding_all exact rfl) | (apply go_bf; with_unfolding_all exact rfl) | refine And.intro (by with_unfolding_all exact rfl) ?_ | dsimp only [wipeE, List.set_cons_zero, List.set_cons_succ, set_0, set_s]))
  refine go_fs hx.fits ⟨big (by simp; omega), ?_⟩
  repeat (with_reducible (first | refine go_Bnil ?_ | refine go_Bcons ?_ | refine go_asg ?_ | refine go_seti ?_ | refine go_exp ?_ | refine go_ret ?_ | refine go_if ?_ | refine go_var ?_ | refine go_con ?_ | refine go_bin ?_ | refine go_neg ?_ | refine go_cmp ?_ | refine go_chain ?_ | refine go_isN ?_ | refine go_and ?_ | refine go_or ?_ | refine go_not ?_ | refine go_call ?_ | refine go_pr ?_ | refine go_me ?_ | refine go_isi ?_ | refine go_idx ?_ | refine go_sli ?_ | refine go_abs0 ?_ | refine go_tup ?_ | refine go_lst ?_ | refine go_fstr ?_ | refine go_Tcmp ?_ | refine go_Tchain ?_ | refine go_TisN ?_ | refine go_Tand ?_ | refine go_Tor ?_ | refine go_Tnot ?_ | refine go_Ttv ?_ | refine go_nil ?_ | refine go_cons ?_ | refine go_Fnil ?_ | refine go_Fcons ?_ | refine go_comp ?_ | refine go_sq ?_ | refine go_enm ?_ | refine go_rng1 ?_ | refine go_for ?_ | refine go_v0 ?_ | refine go_vs ?_ | refine go_add ?_ | refine go_sub ?_ | refine go_int ?_ | refine go_intb ?_ | refine go_abs ?_ | refine go_lent ?_ | refine go_lt ?_ | refine go_le ?_ | refine go_gt ?_ | refine go_ge ?_ | refine go_eqi ?_ | refine go_nei ?_ | refine go_eqs ?_ | refine go_nes ?_ | refine go_tb ?_ | refine go_t ?_ | refine go_f ?_ | refine go_ptS ?_ | refine go_ptN ?_ | (apply go_glo; with_unfolding_all exact rfl) | (apply go_lenl; (first | assumption | exact List.getElem?_set_self (by first | assumption | omega) | exact List.getElem?_concat_length)) | (apply go_lenf; (first | assumption | exact List.getElem?_set_self (by first | assumption | omega) | exact List.getElem?_concat_length)) | (apply go_il; (first | assumption | exact List.getElem?_set_self (by first | assumption | omega) | exact List.getElem?_concat_length); with_unfolding_all exact rfl; with_unfolding_all exact rfl) | (apply go_it; with_unfolding_all exact rfl; with_unfolding_all exact rfl) | (apply go_set; (first | assumption | exact List.getElem?_set_self (by first | assumption | omega) | exact List.getElem?_concat_length); with_unfolding_all exact rfl) | (apply go_bt; with_unfolding_all exact rfl) | (apply go_bf; with_unfolding_all exact rfl) | refine And.intro (by with_unfolding_all exact rfl) ?_ | dsimp only [wipeE, List.set_cons_zero, List.set_cons_succ, set_0, set_s]))
  refine go_fs (big (by simp)) ⟨big (by simp; omega), ?_⟩
  repeat (with_reducible (first | refine go_Bnil ?_ | refine go_Bcons ?_ | refine go_asg ?_ | refine go_seti ?_ | refine go_exp ?_ | refine go_ret ?_ | refine go_if ?_ | refine go_var ?_ | refine go_con ?_ | refine go_bin ?_ | refine go_neg ?_ | refine go_cmp ?_ | refine go_chain ?_ | refine go_isN ?_ | refine go_and ?_ | refine go_or ?_ | refine go_not ?_ | refine go_call ?_ | refine go_pr ?_ | refine go_me ?_ | refine go_isi ?_ | refine go_idx ?_ | refine go_sli ?_ | refine go_abs0 ?_ | refine go_tup ?_ | refine go_lst ?_ | refine go_fstr ?_ | refine go_Tcmp ?_ | refine go_Tchain ?_ | refine go_TisN ?_ | refine go_Tand ?_ | refine go_Tor ?_ | refine go_Tnot ?_ | refine go_Ttv ?_ | refine go_nil ?_ | refine go_cons ?_ | refine go_Fnil ?_ | refine go_Fcons ?_ | refine go_comp ?_ | refine go_sq ?_ | refine go_enm ?_ | refine go_rng1 ?_ | refine go_for ?_ | refine go_v0 ?_ | refine go_vs ?_ | refine go_add ?_ | refine go_sub ?_ | refine go_int ?_ | refine go_intb ?_ | refine go_abs ?_ | refine go_lent ?_ | refine go_lt ?_ | refine go_le ?_ | refine go_gt ?_ | refine go_ge ?_ | refine go_eqi ?_ | refine go_nei ?_ | refine go_eqs ?_ | refine go_nes ?_ | refine go_tb ?_ | refine go_t ?_ | refine go_f ?_ | refine go_ptS ?_ | refine go_ptN ?_ | (apply go_glo; with_unfolding_all exact rfl) | (apply go_lenl; (first | assumption | exact List.getElem?_set_self (by first | assumption | omega) | exact List.getElem?_concat_length)) | (apply go_lenf; (first | assumption | exact List.getElem?_set_self (by first | assumption | omega) | exact List.getElem?_concat_length)) | (apply go_il; (first | assumption | exact List.getElem?_set_self (by first | assumption | omega) | exact List.getElem?_concat_length); with_unfolding_all exact rfl; with_unfolding_all exact rfl) | (apply go_it; with_unfolding_all exact rfl; with_unfolding_all exact rfl) | (apply go_set; (first | assumption | exact List.getElem?_set_self (by first | assumption | omega) | exact List.getElem?_concat_length); with_unfolding_all exact rfl) | (apply go_bt; with_unfolding_all exact rfl) | (apply go_bf; with_unfolding_all exact rfl) | refine And.intro (by with_unfolding_all exact rfl) ?_ | dsimp only [wipeE, List.set_cons_zero, List.set_cons_succ, set_0, set_s]))
  refine go_fi (log_ok n0 n1) ?_
  rw [dec_dg n0 n1]
  refine ⟨big (by unfold dg; simp; omega), ?_⟩
  repeat (with_reducible (first | refine go_Bnil ?_ | refine go_Bcons ?_ | refine go_asg ?_ | refine go_seti ?_ | refine go_exp ?_ | refine go_ret ?_ | refine go_if ?_ | refine go_var ?_ | refine go_con ?_ | refine go_bin ?_ | refine go_neg ?_ | refine go_cmp ?_ | refine go_chain ?_ | refine go_isN ?_ | refine go_and ?_ | refine go_or ?_ | refine go_not ?_ | refine go_call ?_ | refine go_pr ?_ | refine go_me ?_ | refine go_isi ?_ | refine go_idx ?_ | refine go_sli ?_ | refine go_abs0 ?_ | refine go_tup ?_ | refine go_lst ?_ | refine go_fstr ?_ | refine go_Tcmp ?_ | refine go_Tchain ?_ | refine go_TisN ?_ | refine go_Tand ?_ | refine go_Tor ?_ | refine go_Tnot ?_ | refine go_Ttv ?_ | refine go_nil ?_ | refine go_cons ?_ | refine go_Fnil ?_ | refine go_Fcons ?_ | refine go_comp ?_ | refine go_sq ?_ | refine go_enm ?_ | refine go_rng1 ?_ | refine go_for ?_ | refine go_v0 ?_ | refine go_vs ?_ | refine go_add ?_ | refine go_sub ?_ | refine go_int ?_ | refine go_intb ?_ | refine go_abs ?_ | refine go_lent ?_ | refine go_lt ?_ | refine go_le ?_ | refine go_gt ?_ | refine go_ge ?_ | refine go_eqi ?_ | refine go_nei ?_ | refine go_eqs ?_ | refine go_nes ?_ | refine go_tb ?_ | refine go_t ?_ | refine go_f ?_ | refine go_ptS ?_ | refine go_ptN ?_ | (apply go_glo; with_unfolding_all exact rfl) | (apply go_lenl; (first | assumption | exact List.getElem?_set_self (by first | assumption | omega) | exact List.getElem?_concat_length)) | (apply go_lenf; (first | assumption | exact List.getElem?_set_self (by first | assumption | omega) | exact List.getElem?_concat_length)) | (apply go_il; (first | assumption | exact List.getElem?_set_self (by first | assumption | omega) | exact List.getElem?_concat_length); with_unfolding_all exact rfl; with_unfolding_all exact rfl) | (apply go_it; with_unfolding_all exact rfl; with_unfolding_all exact rfl) | (apply go_set; (first | assumption | exact List.getElem?_set_self (by first | assumption | omega) | exact List.getElem?_concat_length); with_unfolding_all exact rfl) | (apply go_bt; with_unfolding_all exact rfl) | (apply go_bf; with_unfolding_all exact rfl) | refine And.intro (by with_unfolding_all exact rfl) ?_ | dsimp only [wipeE, List.set_cons_zero, List.set_cons_succ, set_0, set_s]))
  exact hq
theorem callline {k : Nat} {x : List Nat} {n : Int} {st : Store} {Q : QE} {X : QX} (hx : IsName x) (n0 : 0 ≤ n) (n1 : n < 9) (hq : Q (.str (ct x n)) st) : Call T (k + 1) 20 [.tup [.str x, .int n]] st Q X := by
  refine call_go f__law_call_line.fn rfl rfl ?_
  show wpB T (Call T k) none b__law_call_line [some (.tup [.str x, .int n])] st _
  unfold b__law_call_line
  have h8 := hx.hi
  repeat (with_reducible (first | refine go_Bnil ?_ | refine go_Bcons ?_ | refine go_asg ?_ | refine go_seti ?_ | refine go_exp ?_ | refine go_ret ?_ | refine go_if ?_ | refine go_var ?_ | refine go_con ?_ | refine go_bin ?_ | refine go_neg ?_ | refine go_cmp ?_ | refine go_chain ?_ | refine go_isN ?_ | refine go_and ?_ | refine go_or ?_ | refine go_not ?_ | refine go_call ?_ | refine go_pr ?_ | refine go_me ?_ | refine go_isi ?_ | refine go_idx ?_ | refine go_sli ?_ | refine go_abs0 ?_ | refine go_tup ?_ | refine go_lst ?_ | refine go_fstr ?_ | refine go_Tcmp ?_ | refine go_Tchain ?_ | refine go_TisN ?_ | refine go_Tand ?_ | refine go_Tor ?_ | refine go_Tnot ?_ | refine go_Ttv ?_ | refine go_nil ?_ | refine go_cons ?_ | refine go_Fnil ?_ | refine go_Fcons ?_ | refine go_comp ?_ | refine go_sq ?_ | refine go_enm ?_ | refine go_rng1 ?_ | refine go_for ?_ | refine go_v0 ?_ | refine go_vs ?_ | refine go_add ?_ | refine go_sub ?_ | refine go_int ?_ | refine go_intb ?_ | refine go_abs ?_ | refine go_lent ?_ | refine go_lt ?_ | refine go_le ?_ | refine go_gt ?_ | refine go_ge ?_ | refine go_eqi ?_ | refine go_nei ?_ | refine go_eqs ?_ | refine go_nes ?_ | refine go_tb ?_ | refine go_t ?_ | refine go_f ?_ | refine go_ptS ?_ | refine go_ptN ?_ | (apply go_glo; with_unfolding_all exact rfl) | (apply go_lenl; (first | assumption | exact List.getElem?_set_self (by first | assumption | omega) | exact List.getElem?_concat_length)) | (apply go_lenf; (first | assumption | exact List.getElem?_set_self (by first | assumption | omega) | exact List.getElem?_concat_length)) | (apply go_il; (first | assumption | exact List.getElem?_set_self (by first | assumption | omega) | exact List.getElem?_concat_length); with_unfolding_all exact rfl; with_unfolding_all exact rfl) | (apply go_it; with_unfolding_all exact rfl; with_unfolding_all exact rfl) | (apply go_set; (first | assumption | exact List.getElem?_set_self (by first | assumption | omega) | exact List.getElem?_concat_length); with_unfolding_all exact rfl) | (apply go_bt; with_unfolding_all exact rfl) | (apply go_bf; with_unfolding_all exact rfl) | refine And.intro (by with_unfolding_all exact rfl) ?_ | dsimp only [wipeE, List.set_cons_zero, List.set_cons_succ, set_0, set_s]))
  refine go_sadd (big (by simp; omega)) ?_
  repeat (with_reducible (first | refine go_Bnil ?_ | refine go_Bcons ?_ | refine go_asg ?_ | refine go_seti ?_ | refine go_exp ?_ | refine go_ret ?_ | refine go_if ?_ | refine go_var ?_ | refine go_con ?_ | refine go_bin ?_ | refine go_neg ?_ | refine go_cmp ?_ | refine go_chain ?_ | refine go_isN ?_ | refine go_and ?_ | refine go_or ?_ | refine go_not ?_ | refine go_call ?_ | refine go_pr ?_ | refine go_me ?_ | refine go_isi ?_ | refine go_idx ?_ | refine go_sli ?_ | refine go_abs0 ?_ | refine go_tup ?_ | refine go_lst ?_ | refine go_fstr ?_ | refine go_Tcmp ?_ | refine go_Tchain ?_ | refine go_TisN ?_ | refine go_Tand ?_ | refine go_Tor ?_ | refine go_Tnot ?_ | refine go_Ttv ?_ | refine go_nil ?_ | refine go_cons ?_ | refine go_Fnil ?_ | refine go_Fcons ?_ | refine go_comp ?_ | refine go_sq ?_ | refine go_enm ?_ | refine go_rng1 ?_ | refine go_for ?_ | refine go_v0 ?_ | refine go_vs ?_ | refine go_add ?_ | refine go_sub ?_ | refine go_int ?_ | refine go_intb ?_ | refine go_abs ?_ | refine go_lent ?_ | refine go_lt ?_ | refine go_le ?_ | refine go_gt ?_ | refine go_ge ?_ | refine go_eqi ?_ | refine go_nei ?_ | refine go_eqs ?_ | refine go_nes ?_ | refine go_tb ?_ | refine go_t ?_ | refine go_f ?_ | refine go_ptS ?_ | refine go_ptN ?_ | (apply go_glo; with_unfolding_all exact rfl) | (apply go_lenl; (first | assumption | exact List.getElem?_set_self (by first | assumption | omega) | exact List.getElem?_concat_length)) | (apply go_lenf; (first | assumption | exact List.getElem?_set_self (by first | assumption | omega) | exact List.getElem?_concat_length)) | (apply go_il; (first | assumption | exact List.getElem?_set_self (by first | assumption | omega) | exact List.getElem?_concat_length); with_unfolding_all exact rfl; with_unfolding_all exact rfl) | (apply go_it; with_unfolding_all exact rfl; with_unfolding_all exact rfl) | (apply go_set; (first | assumption | exact List.getElem?_set_self (by first | assumption | omega) | exact List.getElem?_concat_length); with_unfolding_all exact rfl) | (apply go_bt; with_unfolding_all exact rfl) | (apply go_bf; with_unfolding_all exact rfl) | refine And.intro (by with_unfolding_all exact rfl) ?_ | dsimp only [wipeE, List.set_cons_zero, List.set_cons_succ, set_0, set_s]))
  refine go_stri (log_ok n0 n1) ?_
  rw [dec_dg n0 n1]
  refine go_sadd (big (by unfold dg; simp; omega)) ?_
  repeat (with_reducible (first | refine go_Bnil ?_ | refine go_Bcons ?_ | refine go_asg ?_ | refine go_seti ?_ | refine go_exp ?_ | refine go_ret ?_ | refine go_if ?_ | refine go_var ?_ | refine go_con ?_ | refine go_bin ?_ | refine go_neg ?_ | refine go_cmp ?_ | refine go_chain ?_ | refine go_isN ?_ | refine go_and ?_ | refine go_or ?_ | refine go_not ?_ | refine go_call ?_ | refine go_pr ?_ | refine go_me ?_ | refine go_isi ?_ | refine go_idx ?_ | refine go_sli ?_ | refine go_abs0 ?_ | refine go_tup ?_ | refine go_lst ?_ | refine go_fstr ?_ | refine go_Tcmp ?_ | refine go_Tchain ?_ | refine go_TisN ?_ | refine go_Tand ?_ | refine go_Tor ?_ | refine go_Tnot ?_ | refine go_Ttv ?_ | refine go_nil ?_ | refine go_cons ?_ | refine go_Fnil ?_ | refine go_Fcons ?_ | refine go_comp ?_ | refine go_sq ?_ | refine go_enm ?_ | refine go_rng1 ?_ | refine go_for ?_ | refine go_v0 ?_ | refine go_vs ?_ | refine go_add ?_ | refine go_sub ?_ | refine go_int ?_ | refine go_intb ?_ | refine go_abs ?_ | refine go_lent ?_ | refine go_lt ?_ | refine go_le ?_ | refine go_gt ?_ | refine go_ge ?_ | refine go_eqi ?_ | refine go_nei ?_ | refine go_eqs ?_ | refine go_nes ?_ | refine go_tb ?_ | refine go_t ?_ | refine go_f ?_ | refine go_ptS ?_ | refine go_ptN ?_ | (apply go_glo; with_unfolding_all exact rfl) | (apply go_lenl; (first | assumption | exact List.getElem?_set_self (by first | assumption | omega) | exact List.getElem?_concat_length)) | (apply go_lenf; (first | assumption | exact List.getElem?_set_self (by first | assumption | omega) | exact List.getElem?_concat_length)) | (apply go_il; (first | assumption | exact List.getElem?_set_self (by first | assumption | omega) | exact List.getElem?_concat_length); with_unfolding_all exact rfl; with_unfolding_all exact rfl) | (apply go_it; with_unfolding_all exact rfl; with_unfolding_all exact rfl) | (apply go_set; (first | assumption | exact List.getElem?_set_self (by first | assumption | omega) | exact List.getElem?_concat_length); with_unfolding_all exact rfl) | (apply go_bt; with_unfolding_all exact rfl) | (apply go_bf; with_unfolding_all exact rfl) | refine And.intro (by with_unfolding_all exact rfl) ?_ | dsimp only [wipeE, List.set_cons_zero, List.set_cons_succ, set_0, set_s]))
  exact hq
theorem go_ints {x : List Nat} {n : Int} {st : Store} {Q : QE} (e : PySem.intText? ⟨x.toArray⟩ = some n) (b : x.length ≤ 640) (h : Q (.int n) st) : prQ .int [.str x] st Q := ⟨n, e, b, h⟩
theorem int_dg {n : Int} (h0 : 0 ≤ n) (h1 : n < 9) : PySem.intText? ⟨(dg n).toArray⟩ = some n := by
  rcases nine h0 h1 with e | e | e | e | e | e | e | e | e <;> subst e <;> decide +kernel
def held : List D := [.str [48], .str [49], .str [50], .str [51], .str [52], .str [53], .str [54], .str [55], .str [56]]
theorem in_held {n : Int} (h0 : 0 ≤ n) (h1 : n < 9) : inD (.str (dg n)) held = true := by
  rcases nine h0 h1 with e | e | e | e | e | e | e | e | e <;> subst e <;> decide +kernel
theorem callof {k w : Nat} {x : List Nat} {n : Int} {st : Store} {Q : QE} {X : QX} (e : st[w]? = some (.lst [.str x, .str (dg n)])) (hx : IsName x) (n0 : 0 ≤ n) (n1 : n < 9) (hq : Q (.tup [.str x, .int n]) st) : Call T (k + 2) 5 [.ref w] st Q X := by
  refine call_go f_call_of.fn rfl rfl ?_
  show wpB T (Call T (k + 1)) none b_call_of [some (.ref w)] st _
  unfold b_call_of
  repeat (with_reducible (first | refine go_Bnil ?_ | refine go_Bcons ?_ | refine go_asg ?_ | refine go_seti ?_ | refine go_exp ?_ | refine go_ret ?_ | refine go_if ?_ | refine go_var ?_ | refine go_con ?_ | refine go_bin ?_ | refine go_neg ?_ | refine go_cmp ?_ | refine go_chain ?_ | refine go_isN ?_ | refine go_and ?_ | refine go_or ?_ | refine go_not ?_ | refine go_call ?_ | refine go_pr ?_ | refine go_me ?_ | refine go_isi ?_ | refine go_idx ?_ | refine go_sli ?_ | refine go_abs0 ?_ | refine go_tup ?_ | refine go_lst ?_ | refine go_fstr ?_ | refine go_Tcmp ?_ | refine go_Tchain ?_ | refine go_TisN ?_ | refine go_Tand ?_ | refine go_Tor ?_ | refine go_Tnot ?_ | refine go_Ttv ?_ | refine go_nil ?_ | refine go_cons ?_ | refine go_Fnil ?_ | refine go_Fcons ?_ | refine go_comp ?_ | refine go_sq ?_ | refine go_enm ?_ | refine go_rng1 ?_ | refine go_for ?_ | refine go_v0 ?_ | refine go_vs ?_ | refine go_add ?_ | refine go_sub ?_ | refine go_int ?_ | refine go_intb ?_ | refine go_abs ?_ | refine go_lent ?_ | refine go_lt ?_ | refine go_le ?_ | refine go_gt ?_ | refine go_ge ?_ | refine go_eqi ?_ | refine go_nei ?_ | refine go_eqs ?_ | refine go_nes ?_ | refine go_tb ?_ | refine go_t ?_ | refine go_f ?_ | refine go_ptS ?_ | refine go_ptN ?_ | (apply go_glo; with_unfolding_all exact rfl) | (apply go_lenl; (first | assumption | exact List.getElem?_set_self (by first | assumption | omega) | exact List.getElem?_concat_length)) | (apply go_lenf; (first | assumption | exact List.getElem?_set_self (by first | assumption | omega) | exact List.getElem?_concat_length)) | (apply go_il; (first | assumption | exact List.getElem?_set_self (by first | assumption | omega) | exact List.getElem?_concat_length); with_unfolding_all exact rfl; with_unfolding_all exact rfl) | (apply go_it; with_unfolding_all exact rfl; with_unfolding_all exact rfl) | (apply go_set; (first | assumption | exact List.getElem?_set_self (by first | assumption | omega) | exact List.getElem?_concat_length); with_unfolding_all exact rfl) | (apply go_bt; with_unfolding_all exact rfl) | (apply go_bf; with_unfolding_all exact rfl) | refine And.intro (by with_unfolding_all exact rfl) ?_ | dsimp only [wipeE, List.set_cons_zero, List.set_cons_succ, set_0, set_s]))
  refine isname hx ?_
  repeat (with_reducible (first | refine go_Bnil ?_ | refine go_Bcons ?_ | refine go_asg ?_ | refine go_seti ?_ | refine go_exp ?_ | refine go_ret ?_ | refine go_if ?_ | refine go_var ?_ | refine go_con ?_ | refine go_bin ?_ | refine go_neg ?_ | refine go_cmp ?_ | refine go_chain ?_ | refine go_isN ?_ | refine go_and ?_ | refine go_or ?_ | refine go_not ?_ | refine go_call ?_ | refine go_pr ?_ | refine go_me ?_ | refine go_isi ?_ | refine go_idx ?_ | refine go_sli ?_ | refine go_abs0 ?_ | refine go_tup ?_ | refine go_lst ?_ | refine go_fstr ?_ | refine go_Tcmp ?_ | refine go_Tchain ?_ | refine go_TisN ?_ | refine go_Tand ?_ | refine go_Tor ?_ | refine go_Tnot ?_ | refine go_Ttv ?_ | refine go_nil ?_ | refine go_cons ?_ | refine go_Fnil ?_ | refine go_Fcons ?_ | refine go_comp ?_ | refine go_sq ?_ | refine go_enm ?_ | refine go_rng1 ?_ | refine go_for ?_ | refine go_v0 ?_ | refine go_vs ?_ | refine go_add ?_ | refine go_sub ?_ | refine go_int ?_ | refine go_intb ?_ | refine go_abs ?_ | refine go_lent ?_ | refine go_lt ?_ | refine go_le ?_ | refine go_gt ?_ | refine go_ge ?_ | refine go_eqi ?_ | refine go_nei ?_ | refine go_eqs ?_ | refine go_nes ?_ | refine go_tb ?_ | refine go_t ?_ | refine go_f ?_ | refine go_ptS ?_ | refine go_ptN ?_ | (apply go_glo; with_unfolding_all exact rfl) | (apply go_lenl; (first | assumption | exact List.getElem?_set_self (by first | assumption | omega) | exact List.getElem?_concat_length)) | (apply go_lenf; (first | assumption | exact List.getElem?_set_self (by first | assumption | omega) | exact List.getElem?_concat_length)) | (apply go_il; (first | assumption | exact List.getElem?_set_self (by first | assumption | omega) | exact List.getElem?_concat_length); with_unfolding_all exact rfl; with_unfolding_all exact rfl) | (apply go_it; with_unfolding_all exact rfl; with_unfolding_all exact rfl) | (apply go_set; (first | assumption | exact List.getElem?_set_self (by first | assumption | omega) | exact List.getElem?_concat_length); with_unfolding_all exact rfl) | (apply go_bt; with_unfolding_all exact rfl) | (apply go_bf; with_unfolding_all exact rfl) | refine And.intro (by with_unfolding_all exact rfl) ?_ | dsimp only [wipeE, List.set_cons_zero, List.set_cons_succ, set_0, set_s]))
  refine go_nint rfl (by decide +kernel) (in_held n0 n1) ?_
  repeat (with_reducible (first | refine go_Bnil ?_ | refine go_Bcons ?_ | refine go_asg ?_ | refine go_seti ?_ | refine go_exp ?_ | refine go_ret ?_ | refine go_if ?_ | refine go_var ?_ | refine go_con ?_ | refine go_bin ?_ | refine go_neg ?_ | refine go_cmp ?_ | refine go_chain ?_ | refine go_isN ?_ | refine go_and ?_ | refine go_or ?_ | refine go_not ?_ | refine go_call ?_ | refine go_pr ?_ | refine go_me ?_ | refine go_isi ?_ | refine go_idx ?_ | refine go_sli ?_ | refine go_abs0 ?_ | refine go_tup ?_ | refine go_lst ?_ | refine go_fstr ?_ | refine go_Tcmp ?_ | refine go_Tchain ?_ | refine go_TisN ?_ | refine go_Tand ?_ | refine go_Tor ?_ | refine go_Tnot ?_ | refine go_Ttv ?_ | refine go_nil ?_ | refine go_cons ?_ | refine go_Fnil ?_ | refine go_Fcons ?_ | refine go_comp ?_ | refine go_sq ?_ | refine go_enm ?_ | refine go_rng1 ?_ | refine go_for ?_ | refine go_v0 ?_ | refine go_vs ?_ | refine go_add ?_ | refine go_sub ?_ | refine go_int ?_ | refine go_intb ?_ | refine go_abs ?_ | refine go_lent ?_ | refine go_lt ?_ | refine go_le ?_ | refine go_gt ?_ | refine go_ge ?_ | refine go_eqi ?_ | refine go_nei ?_ | refine go_eqs ?_ | refine go_nes ?_ | refine go_tb ?_ | refine go_t ?_ | refine go_f ?_ | refine go_ptS ?_ | refine go_ptN ?_ | (apply go_glo; with_unfolding_all exact rfl) | (apply go_lenl; (first | assumption | exact List.getElem?_set_self (by first | assumption | omega) | exact List.getElem?_concat_length)) | (apply go_lenf; (first | assumption | exact List.getElem?_set_self (by first | assumption | omega) | exact List.getElem?_concat_length)) | (apply go_il; (first | assumption | exact List.getElem?_set_self (by first | assumption | omega) | exact List.getElem?_concat_length); with_unfolding_all exact rfl; with_unfolding_all exact rfl) | (apply go_it; with_unfolding_all exact rfl; with_unfolding_all exact rfl) | (apply go_set; (first | assumption | exact List.getElem?_set_self (by first | assumption | omega) | exact List.getElem?_concat_length); with_unfolding_all exact rfl) | (apply go_bt; with_unfolding_all exact rfl) | (apply go_bf; with_unfolding_all exact rfl) | refine And.intro (by with_unfolding_all exact rfl) ?_ | dsimp only [wipeE, List.set_cons_zero, List.set_cons_succ, set_0, set_s]))
  refine go_ints (int_dg n0 n1) (by unfold dg; simp) ?_
  repeat (with_reducible (first | refine go_Bnil ?_ | refine go_Bcons ?_ | refine go_asg ?_ | refine go_seti ?_ | refine go_exp ?_ | refine go_ret ?_ | refine go_if ?_ | refine go_var ?_ | refine go_con ?_ | refine go_bin ?_ | refine go_neg ?_ | refine go_cmp ?_ | refine go_chain ?_ | refine go_isN ?_ | refine go_and ?_ | refine go_or ?_ | refine go_not ?_ | refine go_call ?_ | refine go_pr ?_ | refine go_me ?_ | refine go_isi ?_ | refine go_idx ?_ | refine go_sli ?_ | refine go_abs0 ?_ | refine go_tup ?_ | refine go_lst ?_ | refine go_fstr ?_ | refine go_Tcmp ?_ | refine go_Tchain ?_ | refine go_TisN ?_ | refine go_Tand ?_ | refine go_Tor ?_ | refine go_Tnot ?_ | refine go_Ttv ?_ | refine go_nil ?_ | refine go_cons ?_ | refine go_Fnil ?_ | refine go_Fcons ?_ | refine go_comp ?_ | refine go_sq ?_ | refine go_enm ?_ | refine go_rng1 ?_ | refine go_for ?_ | refine go_v0 ?_ | refine go_vs ?_ | refine go_add ?_ | refine go_sub ?_ | refine go_int ?_ | refine go_intb ?_ | refine go_abs ?_ | refine go_lent ?_ | refine go_lt ?_ | refine go_le ?_ | refine go_gt ?_ | refine go_ge ?_ | refine go_eqi ?_ | refine go_nei ?_ | refine go_eqs ?_ | refine go_nes ?_ | refine go_tb ?_ | refine go_t ?_ | refine go_f ?_ | refine go_ptS ?_ | refine go_ptN ?_ | (apply go_glo; with_unfolding_all exact rfl) | (apply go_lenl; (first | assumption | exact List.getElem?_set_self (by first | assumption | omega) | exact List.getElem?_concat_length)) | (apply go_lenf; (first | assumption | exact List.getElem?_set_self (by first | assumption | omega) | exact List.getElem?_concat_length)) | (apply go_il; (first | assumption | exact List.getElem?_set_self (by first | assumption | omega) | exact List.getElem?_concat_length); with_unfolding_all exact rfl; with_unfolding_all exact rfl) | (apply go_it; with_unfolding_all exact rfl; with_unfolding_all exact rfl) | (apply go_set; (first | assumption | exact List.getElem?_set_self (by first | assumption | omega) | exact List.getElem?_concat_length); with_unfolding_all exact rfl) | (apply go_bt; with_unfolding_all exact rfl) | (apply go_bf; with_unfolding_all exact rfl) | refine And.intro (by with_unfolding_all exact rfl) ?_ | dsimp only [wipeE, List.set_cons_zero, List.set_cons_succ, set_0, set_s]))
  exact hq
end Y.K_k17
set_option linter.all false
set_option maxHeartbeats 4000000
set_option maxRecDepth 100000
namespace Y.K_k17
open Y PySem
def it1 (n : Int) : List Nat := [115, 116, 101, 112, 32] ++ dg n
def it2 (n : Int) (x : List Nat) (m : Int) : List Nat := [99, 97, 108, 108, 32] ++ dg n ++ [32] ++ ct x m
theorem itemline1 {k : Nat} {n : Int} {st : Store} {Q : QE} {X : QX} (n0 : 0 ≤ n) (n1 : n < 2) (hq : Q (.str (it1 n)) st) : Call T (k + 2) 21 [.tup [.str wStep, .int n]] st Q X := by
  refine call_go f__law_item_line.fn rfl rfl ?_
  show wpB T (Call T (k + 1)) none b__law_item_line [some (.tup [.str [115, 116, 101, 112], .int n])] st _
  unfold b__law_item_line
  repeat (with_reducible (first | refine go_Bnil ?_ | refine go_Bcons ?_ | refine go_asg ?_ | refine go_seti ?_ | refine go_exp ?_ | refine go_ret ?_ | refine go_if ?_ | refine go_var ?_ | refine go_con ?_ | refine go_bin ?_ | refine go_neg ?_ | refine go_cmp ?_ | refine go_chain ?_ | refine go_isN ?_ | refine go_and ?_ | refine go_or ?_ | refine go_not ?_ | refine go_call ?_ | refine go_pr ?_ | refine go_me ?_ | refine go_isi ?_ | refine go_idx ?_ | refine go_sli ?_ | refine go_abs0 ?_ | refine go_tup ?_ | refine go_lst ?_ | refine go_fstr ?_ | refine go_Tcmp ?_ | refine go_Tchain ?_ | refine go_TisN ?_ | refine go_Tand ?_ | refine go_Tor ?_ | refine go_Tnot ?_ | refine go_Ttv ?_ | refine go_nil ?_ | refine go_cons ?_ | refine go_Fnil ?_ | refine go_Fcons ?_ | refine go_comp ?_ | refine go_sq ?_ | refine go_enm ?_ | refine go_rng1 ?_ | refine go_for ?_ | refine go_v0 ?_ | refine go_vs ?_ | refine go_add ?_ | refine go_sub ?_ | refine go_int ?_ | refine go_intb ?_ | refine go_abs ?_ | refine go_lent ?_ | refine go_lt ?_ | refine go_le ?_ | refine go_gt ?_ | refine go_ge ?_ | refine go_eqi ?_ | refine go_nei ?_ | refine go_eqs ?_ | refine go_nes ?_ | refine go_tb ?_ | refine go_t ?_ | refine go_f ?_ | refine go_ptS ?_ | refine go_ptN ?_ | (apply go_glo; with_unfolding_all exact rfl) | (apply go_lenl; (first | assumption | exact List.getElem?_set_self (by first | assumption | omega) | exact List.getElem?_concat_length)) | (apply go_lenf; (first | assumption | exact List.getElem?_set_self (by first | assumption | omega) | exact List.getElem?_concat_length)) | (apply go_il; (first | assumption | exact List.getElem?_set_self (by first | assumption | omega) | exact List.getElem?_concat_length); with_unfolding_all exact rfl; with_unfolding_all exact rfl) | (apply go_it; with_unfolding_all exact rfl; with_unfolding_all exact rfl) | (apply go_set; (first | assumption | exact List.getElem?_set_self (by first | assumption | omega) | exact List.getElem?_concat_length); with_unfolding_all exact rfl) | (apply go_bt; with_unfolding_all exact rfl) | (apply go_bf; with_unfolding_all exact rfl) | refine And.intro (by with_unfolding_all exact rfl) ?_ | dsimp only [wipeE, List.set_cons_zero, List.set_cons_succ, set_0, set_s]))
  refine go_stri (log_ok n0 (by omega)) ?_
  rw [dec_dg n0 (by omega)]
  refine go_sadd (big (by unfold dg; simp)) ?_
  repeat (with_reducible (first | refine go_Bnil ?_ | refine go_Bcons ?_ | refine go_asg ?_ | refine go_seti ?_ | refine go_exp ?_ | refine go_ret ?_ | refine go_if ?_ | refine go_var ?_ | refine go_con ?_ | refine go_bin ?_ | refine go_neg ?_ | refine go_cmp ?_ | refine go_chain ?_ | refine go_isN ?_ | refine go_and ?_ | refine go_or ?_ | refine go_not ?_ | refine go_call ?_ | refine go_pr ?_ | refine go_me ?_ | refine go_isi ?_ | refine go_idx ?_ | refine go_sli ?_ | refine go_abs0 ?_ | refine go_tup ?_ | refine go_lst ?_ | refine go_fstr ?_ | refine go_Tcmp ?_ | refine go_Tchain ?_ | refine go_TisN ?_ | refine go_Tand ?_ | refine go_Tor ?_ | refine go_Tnot ?_ | refine go_Ttv ?_ | refine go_nil ?_ | refine go_cons ?_ | refine go_Fnil ?_ | refine go_Fcons ?_ | refine go_comp ?_ | refine go_sq ?_ | refine go_enm ?_ | refine go_rng1 ?_ | refine go_for ?_ | refine go_v0 ?_ | refine go_vs ?_ | refine go_add ?_ | refine go_sub ?_ | refine go_int ?_ | refine go_intb ?_ | refine go_abs ?_ | refine go_lent ?_ | refine go_lt ?_ | refine go_le ?_ | refine go_gt ?_ | refine go_ge ?_ | refine go_eqi ?_ | refine go_nei ?_ | refine go_eqs ?_ | refine go_nes ?_ | refine go_tb ?_ | refine go_t ?_ | refine go_f ?_ | refine go_ptS ?_ | refine go_ptN ?_ | (apply go_glo; with_unfolding_all exact rfl) | (apply go_lenl; (first | assumption | exact List.getElem?_set_self (by first | assumption | omega) | exact List.getElem?_concat_length)) | (apply go_lenf; (first | assumption | exact List.getElem?_set_self (by first | assumption | omega) | exact List.getElem?_concat_length)) | (apply go_il; (first | assumption | exact List.getElem?_set_self (by first | assumption | omega) | exact List.getElem?_concat_length); with_unfolding_all exact rfl; with_unfolding_all exact rfl) | (apply go_it; with_unfolding_all exact rfl; with_unfolding_all exact rfl) | (apply go_set; (first | assumption | exact List.getElem?_set_self (by first | assumption | omega) | exact List.getElem?_concat_length); with_unfolding_all exact rfl) | (apply go_bt; with_unfolding_all exact rfl) | (apply go_bf; with_unfolding_all exact rfl) | refine And.intro (by with_unfolding_all exact rfl) ?_ | dsimp only [wipeE, List.set_cons_zero, List.set_cons_succ, set_0, set_s]))
  exact hq
theorem itemline2 {k : Nat} {n m : Int} {x : List Nat} {st : Store} {Q : QE} {X : QX} (n0 : 0 ≤ n) (n1 : n < 2) (hx : IsName x) (m0 : 0 ≤ m) (m1 : m < 9) (hq : Q (.str (it2 n x m)) st) : Call T (k + 2) 21 [.tup [.str wCall, .int n, .tup [.str x, .int m]]] st Q X := by
  refine call_go f__law_item_line.fn rfl rfl ?_
  show wpB T (Call T (k + 1)) none b__law_item_line [some (.tup [.str [99, 97, 108, 108], .int n, .tup [.str x, .int m]])] st _
  unfold b__law_item_line
  have c10 := ct_len (n := m) hx
  repeat (with_reducible (first | refine go_Bnil ?_ | refine go_Bcons ?_ | refine go_asg ?_ | refine go_seti ?_ | refine go_exp ?_ | refine go_ret ?_ | refine go_if ?_ | refine go_var ?_ | refine go_con ?_ | refine go_bin ?_ | refine go_neg ?_ | refine go_cmp ?_ | refine go_chain ?_ | refine go_isN ?_ | refine go_and ?_ | refine go_or ?_ | refine go_not ?_ | refine go_call ?_ | refine go_pr ?_ | refine go_me ?_ | refine go_isi ?_ | refine go_idx ?_ | refine go_sli ?_ | refine go_abs0 ?_ | refine go_tup ?_ | refine go_lst ?_ | refine go_fstr ?_ | refine go_Tcmp ?_ | refine go_Tchain ?_ | refine go_TisN ?_ | refine go_Tand ?_ | refine go_Tor ?_ | refine go_Tnot ?_ | refine go_Ttv ?_ | refine go_nil ?_ | refine go_cons ?_ | refine go_Fnil ?_ | refine go_Fcons ?_ | refine go_comp ?_ | refine go_sq ?_ | refine go_enm ?_ | refine go_rng1 ?_ | refine go_for ?_ | refine go_v0 ?_ | refine go_vs ?_ | refine go_add ?_ | refine go_sub ?_ | refine go_int ?_ | refine go_intb ?_ | refine go_abs ?_ | refine go_lent ?_ | refine go_lt ?_ | refine go_le ?_ | refine go_gt ?_ | refine go_ge ?_ | refine go_eqi ?_ | refine go_nei ?_ | refine go_eqs ?_ | refine go_nes ?_ | refine go_tb ?_ | refine go_t ?_ | refine go_f ?_ | refine go_ptS ?_ | refine go_ptN ?_ | (apply go_glo; with_unfolding_all exact rfl) | (apply go_lenl; (first | assumption | exact List.getElem?_set_self (by first | assumption | omega) | exact List.getElem?_concat_length)) | (apply go_lenf; (first | assumption | exact List.getElem?_set_self (by first | assumption | omega) | exact List.getElem?_concat_length)) | (apply go_il; (first | assumption | exact List.getElem?_set_self (by first | assumption | omega) | exact List.getElem?_concat_length); with_unfolding_all exact rfl; with_unfolding_all exact rfl) | (apply go_it; with_unfolding_all exact rfl; with_unfolding_all exact rfl) | (apply go_set; (first | assumption | exact List.getElem?_set_self (by first | assumption | omega) | exact List.getElem?_concat_length); with_unfolding_all exact rfl) | (apply go_bt; with_unfolding_all exact rfl) | (apply go_bf; with_unfolding_all exact rfl) | refine And.intro (by with_unfolding_all exact rfl) ?_ | dsimp only [wipeE, List.set_cons_zero, List.set_cons_succ, set_0, set_s]))
  refine go_stri (log_ok n0 (by omega)) ?_
  rw [dec_dg n0 (by omega)]
  refine go_sadd (big (by unfold dg; simp)) ?_
  repeat (with_reducible (first | refine go_Bnil ?_ | refine go_Bcons ?_ | refine go_asg ?_ | refine go_seti ?_ | refine go_exp ?_ | refine go_ret ?_ | refine go_if ?_ | refine go_var ?_ | refine go_con ?_ | refine go_bin ?_ | refine go_neg ?_ | refine go_cmp ?_ | refine go_chain ?_ | refine go_isN ?_ | refine go_and ?_ | refine go_or ?_ | refine go_not ?_ | refine go_call ?_ | refine go_pr ?_ | refine go_me ?_ | refine go_isi ?_ | refine go_idx ?_ | refine go_sli ?_ | refine go_abs0 ?_ | refine go_tup ?_ | refine go_lst ?_ | refine go_fstr ?_ | refine go_Tcmp ?_ | refine go_Tchain ?_ | refine go_TisN ?_ | refine go_Tand ?_ | refine go_Tor ?_ | refine go_Tnot ?_ | refine go_Ttv ?_ | refine go_nil ?_ | refine go_cons ?_ | refine go_Fnil ?_ | refine go_Fcons ?_ | refine go_comp ?_ | refine go_sq ?_ | refine go_enm ?_ | refine go_rng1 ?_ | refine go_for ?_ | refine go_v0 ?_ | refine go_vs ?_ | refine go_add ?_ | refine go_sub ?_ | refine go_int ?_ | refine go_intb ?_ | refine go_abs ?_ | refine go_lent ?_ | refine go_lt ?_ | refine go_le ?_ | refine go_gt ?_ | refine go_ge ?_ | refine go_eqi ?_ | refine go_nei ?_ | refine go_eqs ?_ | refine go_nes ?_ | refine go_tb ?_ | refine go_t ?_ | refine go_f ?_ | refine go_ptS ?_ | refine go_ptN ?_ | (apply go_glo; with_unfolding_all exact rfl) | (apply go_lenl; (first | assumption | exact List.getElem?_set_self (by first | assumption | omega) | exact List.getElem?_concat_length)) | (apply go_lenf; (first | assumption | exact List.getElem?_set_self (by first | assumption | omega) | exact List.getElem?_concat_length)) | (apply go_il; (first | assumption | exact List.getElem?_set_self (by first | assumption | omega) | exact List.getElem?_concat_length); with_unfolding_all exact rfl; with_unfolding_all exact rfl) | (apply go_it; with_unfolding_all exact rfl; with_unfolding_all exact rfl) | (apply go_set; (first | assumption | exact List.getElem?_set_self (by first | assumption | omega) | exact List.getElem?_concat_length); with_unfolding_all exact rfl) | (apply go_bt; with_unfolding_all exact rfl) | (apply go_bf; with_unfolding_all exact rfl) | refine And.intro (by with_unfolding_all exact rfl) ?_ | dsimp only [wipeE, List.set_cons_zero, List.set_cons_succ, set_0, set_s]))
  refine go_sadd (big (by unfold dg; simp)) ?_
  repeat (with_reducible (first | refine go_Bnil ?_ | refine go_Bcons ?_ | refine go_asg ?_ | refine go_seti ?_ | refine go_exp ?_ | refine go_ret ?_ | refine go_if ?_ | refine go_var ?_ | refine go_con ?_ | refine go_bin ?_ | refine go_neg ?_ | refine go_cmp ?_ | refine go_chain ?_ | refine go_isN ?_ | refine go_and ?_ | refine go_or ?_ | refine go_not ?_ | refine go_call ?_ | refine go_pr ?_ | refine go_me ?_ | refine go_isi ?_ | refine go_idx ?_ | refine go_sli ?_ | refine go_abs0 ?_ | refine go_tup ?_ | refine go_lst ?_ | refine go_fstr ?_ | refine go_Tcmp ?_ | refine go_Tchain ?_ | refine go_TisN ?_ | refine go_Tand ?_ | refine go_Tor ?_ | refine go_Tnot ?_ | refine go_Ttv ?_ | refine go_nil ?_ | refine go_cons ?_ | refine go_Fnil ?_ | refine go_Fcons ?_ | refine go_comp ?_ | refine go_sq ?_ | refine go_enm ?_ | refine go_rng1 ?_ | refine go_for ?_ | refine go_v0 ?_ | refine go_vs ?_ | refine go_add ?_ | refine go_sub ?_ | refine go_int ?_ | refine go_intb ?_ | refine go_abs ?_ | refine go_lent ?_ | refine go_lt ?_ | refine go_le ?_ | refine go_gt ?_ | refine go_ge ?_ | refine go_eqi ?_ | refine go_nei ?_ | refine go_eqs ?_ | refine go_nes ?_ | refine go_tb ?_ | refine go_t ?_ | refine go_f ?_ | refine go_ptS ?_ | refine go_ptN ?_ | (apply go_glo; with_unfolding_all exact rfl) | (apply go_lenl; (first | assumption | exact List.getElem?_set_self (by first | assumption | omega) | exact List.getElem?_concat_length)) | (apply go_lenf; (first | assumption | exact List.getElem?_set_self (by first | assumption | omega) | exact List.getElem?_concat_length)) | (apply go_il; (first | assumption | exact List.getElem?_set_self (by first | assumption | omega) | exact List.getElem?_concat_length); with_unfolding_all exact rfl; with_unfolding_all exact rfl) | (apply go_it; with_unfolding_all exact rfl; with_unfolding_all exact rfl) | (apply go_set; (first | assumption | exact List.getElem?_set_self (by first | assumption | omega) | exact List.getElem?_concat_length); with_unfolding_all exact rfl) | (apply go_bt; with_unfolding_all exact rfl) | (apply go_bf; with_unfolding_all exact rfl) | refine And.intro (by with_unfolding_all exact rfl) ?_ | dsimp only [wipeE, List.set_cons_zero, List.set_cons_succ, set_0, set_s]))
  refine callline hx m0 m1 ?_
  repeat (with_reducible (first | refine go_Bnil ?_ | refine go_Bcons ?_ | refine go_asg ?_ | refine go_seti ?_ | refine go_exp ?_ | refine go_ret ?_ | refine go_if ?_ | refine go_var ?_ | refine go_con ?_ | refine go_bin ?_ | refine go_neg ?_ | refine go_cmp ?_ | refine go_chain ?_ | refine go_isN ?_ | refine go_and ?_ | refine go_or ?_ | refine go_not ?_ | refine go_call ?_ | refine go_pr ?_ | refine go_me ?_ | refine go_isi ?_ | refine go_idx ?_ | refine go_sli ?_ | refine go_abs0 ?_ | refine go_tup ?_ | refine go_lst ?_ | refine go_fstr ?_ | refine go_Tcmp ?_ | refine go_Tchain ?_ | refine go_TisN ?_ | refine go_Tand ?_ | refine go_Tor ?_ | refine go_Tnot ?_ | refine go_Ttv ?_ | refine go_nil ?_ | refine go_cons ?_ | refine go_Fnil ?_ | refine go_Fcons ?_ | refine go_comp ?_ | refine go_sq ?_ | refine go_enm ?_ | refine go_rng1 ?_ | refine go_for ?_ | refine go_v0 ?_ | refine go_vs ?_ | refine go_add ?_ | refine go_sub ?_ | refine go_int ?_ | refine go_intb ?_ | refine go_abs ?_ | refine go_lent ?_ | refine go_lt ?_ | refine go_le ?_ | refine go_gt ?_ | refine go_ge ?_ | refine go_eqi ?_ | refine go_nei ?_ | refine go_eqs ?_ | refine go_nes ?_ | refine go_tb ?_ | refine go_t ?_ | refine go_f ?_ | refine go_ptS ?_ | refine go_ptN ?_ | (apply go_glo; with_unfolding_all exact rfl) | (apply go_lenl; (first | assumption | exact List.getElem?_set_self (by first | assumption | omega) | exact List.getElem?_concat_length)) | (apply go_lenf; (first | assumption | exact List.getElem?_set_self (by first | assumption | omega) | exact List.getElem?_concat_length)) | (apply go_il; (first | assumption | exact List.getElem?_set_self (by first | assumption | omega) | exact List.getElem?_concat_length); with_unfolding_all exact rfl; with_unfolding_all exact rfl) | (apply go_it; with_unfolding_all exact rfl; with_unfolding_all exact rfl) | (apply go_set; (first | assumption | exact List.getElem?_set_self (by first | assumption | omega) | exact List.getElem?_concat_length); with_unfolding_all exact rfl) | (apply go_bt; with_unfolding_all exact rfl) | (apply go_bf; with_unfolding_all exact rfl) | refine And.intro (by with_unfolding_all exact rfl) ?_ | dsimp only [wipeE, List.set_cons_zero, List.set_cons_succ, set_0, set_s]))
  refine go_sadd (big (by unfold dg; simp; omega)) ?_
  repeat (with_reducible (first | refine go_Bnil ?_ | refine go_Bcons ?_ | refine go_asg ?_ | refine go_seti ?_ | refine go_exp ?_ | refine go_ret ?_ | refine go_if ?_ | refine go_var ?_ | refine go_con ?_ | refine go_bin ?_ | refine go_neg ?_ | refine go_cmp ?_ | refine go_chain ?_ | refine go_isN ?_ | refine go_and ?_ | refine go_or ?_ | refine go_not ?_ | refine go_call ?_ | refine go_pr ?_ | refine go_me ?_ | refine go_isi ?_ | refine go_idx ?_ | refine go_sli ?_ | refine go_abs0 ?_ | refine go_tup ?_ | refine go_lst ?_ | refine go_fstr ?_ | refine go_Tcmp ?_ | refine go_Tchain ?_ | refine go_TisN ?_ | refine go_Tand ?_ | refine go_Tor ?_ | refine go_Tnot ?_ | refine go_Ttv ?_ | refine go_nil ?_ | refine go_cons ?_ | refine go_Fnil ?_ | refine go_Fcons ?_ | refine go_comp ?_ | refine go_sq ?_ | refine go_enm ?_ | refine go_rng1 ?_ | refine go_for ?_ | refine go_v0 ?_ | refine go_vs ?_ | refine go_add ?_ | refine go_sub ?_ | refine go_int ?_ | refine go_intb ?_ | refine go_abs ?_ | refine go_lent ?_ | refine go_lt ?_ | refine go_le ?_ | refine go_gt ?_ | refine go_ge ?_ | refine go_eqi ?_ | refine go_nei ?_ | refine go_eqs ?_ | refine go_nes ?_ | refine go_tb ?_ | refine go_t ?_ | refine go_f ?_ | refine go_ptS ?_ | refine go_ptN ?_ | (apply go_glo; with_unfolding_all exact rfl) | (apply go_lenl; (first | assumption | exact List.getElem?_set_self (by first | assumption | omega) | exact List.getElem?_concat_length)) | (apply go_lenf; (first | assumption | exact List.getElem?_set_self (by first | assumption | omega) | exact List.getElem?_concat_length)) | (apply go_il; (first | assumption | exact List.getElem?_set_self (by first | assumption | omega) | exact List.getElem?_concat_length); with_unfolding_all exact rfl; with_unfolding_all exact rfl) | (apply go_it; with_unfolding_all exact rfl; with_unfolding_all exact rfl) | (apply go_set; (first | assumption | exact List.getElem?_set_self (by first | assumption | omega) | exact List.getElem?_concat_length); with_unfolding_all exact rfl) | (apply go_bt; with_unfolding_all exact rfl) | (apply go_bf; with_unfolding_all exact rfl) | refine And.intro (by with_unfolding_all exact rfl) ?_ | dsimp only [wipeE, List.set_cons_zero, List.set_cons_succ, set_0, set_s]))
  exact hq
end Y.K_k17
set_option linter.all false
set_option maxHeartbeats 4000000
set_option maxRecDepth 100000
namespace Y.K_k17
open Y PySem
inductive ItemTx : D → List Nat → Prop
  | step (n : Int) (n0 : 0 ≤ n) (n1 : n < 2) : ItemTx (.tup [.str wStep, .int n]) (it1 n)
  | call (n m : Int) (x : List Nat) (n0 : 0 ≤ n) (n1 : n < 2) (hx : IsName x) (m0 : 0 ≤ m) (m1 : m < 9) : ItemTx (.tup [.str wCall, .int n, .tup [.str x, .int m]]) (it2 n x m)
theorem itemwords {k : Nat} {d : D} {t : List Nat} {st : Store} {Q : QE} {X : QX} (h : ItemTx d t) (hq : Q (.str t) st) : Call T (k + 4) 9 [d] st Q X := by
  refine call_go f_item_words.fn rfl rfl ?_
  show wpB T (Call T (k + 3)) none b_item_words [some d] st _
  unfold b_item_words
  cases h with
  | step n n0 n1 =>
    unfold wStep
    repeat (with_reducible (first | refine go_Bnil ?_ | refine go_Bcons ?_ | refine go_asg ?_ | refine go_seti ?_ | refine go_exp ?_ | refine go_ret ?_ | refine go_if ?_ | refine go_var ?_ | refine go_con ?_ | refine go_bin ?_ | refine go_neg ?_ | refine go_cmp ?_ | refine go_chain ?_ | refine go_isN ?_ | refine go_and ?_ | refine go_or ?_ | refine go_not ?_ | refine go_call ?_ | refine go_pr ?_ | refine go_me ?_ | refine go_isi ?_ | refine go_idx ?_ | refine go_sli ?_ | refine go_abs0 ?_ | refine go_tup ?_ | refine go_lst ?_ | refine go_fstr ?_ | refine go_Tcmp ?_ | refine go_Tchain ?_ | refine go_TisN ?_ | refine go_Tand ?_ | refine go_Tor ?_ | refine go_Tnot ?_ | refine go_Ttv ?_ | refine go_nil ?_ | refine go_cons ?_ | refine go_Fnil ?_ | refine go_Fcons ?_ | refine go_comp ?_ | refine go_sq ?_ | refine go_enm ?_ | refine go_rng1 ?_ | refine go_for ?_ | refine go_v0 ?_ | refine go_vs ?_ | refine go_add ?_ | refine go_sub ?_ | refine go_int ?_ | refine go_intb ?_ | refine go_abs ?_ | refine go_lent ?_ | refine go_lt ?_ | refine go_le ?_ | refine go_gt ?_ | refine go_ge ?_ | refine go_eqi ?_ | refine go_nei ?_ | refine go_eqs ?_ | refine go_nes ?_ | refine go_tb ?_ | refine go_t ?_ | refine go_f ?_ | refine go_ptS ?_ | refine go_ptN ?_ | (apply go_glo; with_unfolding_all exact rfl) | (apply go_lenl; (first | assumption | exact List.getElem?_set_self (by first | assumption | omega) | exact List.getElem?_concat_length)) | (apply go_lenf; (first | assumption | exact List.getElem?_set_self (by first | assumption | omega) | exact List.getElem?_concat_length)) | (apply go_il; (first | assumption | exact List.getElem?_set_self (by first | assumption | omega) | exact List.getElem?_concat_length); with_unfolding_all exact rfl; with_unfolding_all exact rfl) | (apply go_it; with_unfolding_all exact rfl; with_unfolding_all exact rfl) | (apply go_set; (first | assumption | exact List.getElem?_set_self (by first | assumption | omega) | exact List.getElem?_concat_length); with_unfolding_all exact rfl) | (apply go_bt; with_unfolding_all exact rfl) | (apply go_bf; with_unfolding_all exact rfl) | refine And.intro (by with_unfolding_all exact rfl) ?_ | dsimp only [wipeE, List.set_cons_zero, List.set_cons_succ, set_0, set_s]))
    refine small n0 (by omega) ?_
    repeat (with_reducible (first | refine go_Bnil ?_ | refine go_Bcons ?_ | refine go_asg ?_ | refine go_seti ?_ | refine go_exp ?_ | refine go_ret ?_ | refine go_if ?_ | refine go_var ?_ | refine go_con ?_ | refine go_bin ?_ | refine go_neg ?_ | refine go_cmp ?_ | refine go_chain ?_ | refine go_isN ?_ | refine go_and ?_ | refine go_or ?_ | refine go_not ?_ | refine go_call ?_ | refine go_pr ?_ | refine go_me ?_ | refine go_isi ?_ | refine go_idx ?_ | refine go_sli ?_ | refine go_abs0 ?_ | refine go_tup ?_ | refine go_lst ?_ | refine go_fstr ?_ | refine go_Tcmp ?_ | refine go_Tchain ?_ | refine go_TisN ?_ | refine go_Tand ?_ | refine go_Tor ?_ | refine go_Tnot ?_ | refine go_Ttv ?_ | refine go_nil ?_ | refine go_cons ?_ | refine go_Fnil ?_ | refine go_Fcons ?_ | refine go_comp ?_ | refine go_sq ?_ | refine go_enm ?_ | refine go_rng1 ?_ | refine go_for ?_ | refine go_v0 ?_ | refine go_vs ?_ | refine go_add ?_ | refine go_sub ?_ | refine go_int ?_ | refine go_intb ?_ | refine go_abs ?_ | refine go_lent ?_ | refine go_lt ?_ | refine go_le ?_ | refine go_gt ?_ | refine go_ge ?_ | refine go_eqi ?_ | refine go_nei ?_ | refine go_eqs ?_ | refine go_nes ?_ | refine go_tb ?_ | refine go_t ?_ | refine go_f ?_ | refine go_ptS ?_ | refine go_ptN ?_ | (apply go_glo; with_unfolding_all exact rfl) | (apply go_lenl; (first | assumption | exact List.getElem?_set_self (by first | assumption | omega) | exact List.getElem?_concat_length)) | (apply go_lenf; (first | assumption | exact List.getElem?_set_self (by first | assumption | omega) | exact List.getElem?_concat_length)) | (apply go_il; (first | assumption | exact List.getElem?_set_self (by first | assumption | omega) | exact List.getElem?_concat_length); with_unfolding_all exact rfl; with_unfolding_all exact rfl) | (apply go_it; with_unfolding_all exact rfl; with_unfolding_all exact rfl) | (apply go_set; (first | assumption | exact List.getElem?_set_self (by first | assumption | omega) | exact List.getElem?_concat_length); with_unfolding_all exact rfl) | (apply go_bt; with_unfolding_all exact rfl) | (apply go_bf; with_unfolding_all exact rfl) | refine And.intro (by with_unfolding_all exact rfl) ?_ | dsimp only [wipeE, List.set_cons_zero, List.set_cons_succ, set_0, set_s]))
    refine go_fs (big (by simp)) ⟨big (by simp), ?_⟩
    repeat (with_reducible (first | refine go_Bnil ?_ | refine go_Bcons ?_ | refine go_asg ?_ | refine go_seti ?_ | refine go_exp ?_ | refine go_ret ?_ | refine go_if ?_ | refine go_var ?_ | refine go_con ?_ | refine go_bin ?_ | refine go_neg ?_ | refine go_cmp ?_ | refine go_chain ?_ | refine go_isN ?_ | refine go_and ?_ | refine go_or ?_ | refine go_not ?_ | refine go_call ?_ | refine go_pr ?_ | refine go_me ?_ | refine go_isi ?_ | refine go_idx ?_ | refine go_sli ?_ | refine go_abs0 ?_ | refine go_tup ?_ | refine go_lst ?_ | refine go_fstr ?_ | refine go_Tcmp ?_ | refine go_Tchain ?_ | refine go_TisN ?_ | refine go_Tand ?_ | refine go_Tor ?_ | refine go_Tnot ?_ | refine go_Ttv ?_ | refine go_nil ?_ | refine go_cons ?_ | refine go_Fnil ?_ | refine go_Fcons ?_ | refine go_comp ?_ | refine go_sq ?_ | refine go_enm ?_ | refine go_rng1 ?_ | refine go_for ?_ | refine go_v0 ?_ | refine go_vs ?_ | refine go_add ?_ | refine go_sub ?_ | refine go_int ?_ | refine go_intb ?_ | refine go_abs ?_ | refine go_lent ?_ | refine go_lt ?_ | refine go_le ?_ | refine go_gt ?_ | refine go_ge ?_ | refine go_eqi ?_ | refine go_nei ?_ | refine go_eqs ?_ | refine go_nes ?_ | refine go_tb ?_ | refine go_t ?_ | refine go_f ?_ | refine go_ptS ?_ | refine go_ptN ?_ | (apply go_glo; with_unfolding_all exact rfl) | (apply go_lenl; (first | assumption | exact List.getElem?_set_self (by first | assumption | omega) | exact List.getElem?_concat_length)) | (apply go_lenf; (first | assumption | exact List.getElem?_set_self (by first | assumption | omega) | exact List.getElem?_concat_length)) | (apply go_il; (first | assumption | exact List.getElem?_set_self (by first | assumption | omega) | exact List.getElem?_concat_length); with_unfolding_all exact rfl; with_unfolding_all exact rfl) | (apply go_it; with_unfolding_all exact rfl; with_unfolding_all exact rfl) | (apply go_set; (first | assumption | exact List.getElem?_set_self (by first | assumption | omega) | exact List.getElem?_concat_length); with_unfolding_all exact rfl) | (apply go_bt; with_unfolding_all exact rfl) | (apply go_bf; with_unfolding_all exact rfl) | refine And.intro (by with_unfolding_all exact rfl) ?_ | dsimp only [wipeE, List.set_cons_zero, List.set_cons_succ, set_0, set_s]))
    refine go_fi (log_ok n0 (by omega)) ?_
    rw [dec_dg n0 (by omega)]
    refine ⟨big (by unfold dg; simp), ?_⟩
    repeat (with_reducible (first | refine go_Bnil ?_ | refine go_Bcons ?_ | refine go_asg ?_ | refine go_seti ?_ | refine go_exp ?_ | refine go_ret ?_ | refine go_if ?_ | refine go_var ?_ | refine go_con ?_ | refine go_bin ?_ | refine go_neg ?_ | refine go_cmp ?_ | refine go_chain ?_ | refine go_isN ?_ | refine go_and ?_ | refine go_or ?_ | refine go_not ?_ | refine go_call ?_ | refine go_pr ?_ | refine go_me ?_ | refine go_isi ?_ | refine go_idx ?_ | refine go_sli ?_ | refine go_abs0 ?_ | refine go_tup ?_ | refine go_lst ?_ | refine go_fstr ?_ | refine go_Tcmp ?_ | refine go_Tchain ?_ | refine go_TisN ?_ | refine go_Tand ?_ | refine go_Tor ?_ | refine go_Tnot ?_ | refine go_Ttv ?_ | refine go_nil ?_ | refine go_cons ?_ | refine go_Fnil ?_ | refine go_Fcons ?_ | refine go_comp ?_ | refine go_sq ?_ | refine go_enm ?_ | refine go_rng1 ?_ | refine go_for ?_ | refine go_v0 ?_ | refine go_vs ?_ | refine go_add ?_ | refine go_sub ?_ | refine go_int ?_ | refine go_intb ?_ | refine go_abs ?_ | refine go_lent ?_ | refine go_lt ?_ | refine go_le ?_ | refine go_gt ?_ | refine go_ge ?_ | refine go_eqi ?_ | refine go_nei ?_ | refine go_eqs ?_ | refine go_nes ?_ | refine go_tb ?_ | refine go_t ?_ | refine go_f ?_ | refine go_ptS ?_ | refine go_ptN ?_ | (apply go_glo; with_unfolding_all exact rfl) | (apply go_lenl; (first | assumption | exact List.getElem?_set_self (by first | assumption | omega) | exact List.getElem?_concat_length)) | (apply go_lenf; (first | assumption | exact List.getElem?_set_self (by first | assumption | omega) | exact List.getElem?_concat_length)) | (apply go_il; (first | assumption | exact List.getElem?_set_self (by first | assumption | omega) | exact List.getElem?_concat_length); with_unfolding_all exact rfl; with_unfolding_all exact rfl) | (apply go_it; with_unfolding_all exact rfl; with_unfolding_all exact rfl) | (apply go_set; (first | assumption | exact List.getElem?_set_self (by first | assumption | omega) | exact List.getElem?_concat_length); with_unfolding_all exact rfl) | (apply go_bt; with_unfolding_all exact rfl) | (apply go_bf; with_unfolding_all exact rfl) | refine And.intro (by with_unfolding_all exact rfl) ?_ | dsimp only [wipeE, List.set_cons_zero, List.set_cons_succ, set_0, set_s]))
    exact hq
  | call n m x n0 n1 hx m0 m1 =>
    have c10 := ct_len (n := m) hx
    unfold wCall
    repeat (with_reducible (first | refine go_Bnil ?_ | refine go_Bcons ?_ | refine go_asg ?_ | refine go_seti ?_ | refine go_exp ?_ | refine go_ret ?_ | refine go_if ?_ | refine go_var ?_ | refine go_con ?_ | refine go_bin ?_ | refine go_neg ?_ | refine go_cmp ?_ | refine go_chain ?_ | refine go_isN ?_ | refine go_and ?_ | refine go_or ?_ | refine go_not ?_ | refine go_call ?_ | refine go_pr ?_ | refine go_me ?_ | refine go_isi ?_ | refine go_idx ?_ | refine go_sli ?_ | refine go_abs0 ?_ | refine go_tup ?_ | refine go_lst ?_ | refine go_fstr ?_ | refine go_Tcmp ?_ | refine go_Tchain ?_ | refine go_TisN ?_ | refine go_Tand ?_ | refine go_Tor ?_ | refine go_Tnot ?_ | refine go_Ttv ?_ | refine go_nil ?_ | refine go_cons ?_ | refine go_Fnil ?_ | refine go_Fcons ?_ | refine go_comp ?_ | refine go_sq ?_ | refine go_enm ?_ | refine go_rng1 ?_ | refine go_for ?_ | refine go_v0 ?_ | refine go_vs ?_ | refine go_add ?_ | refine go_sub ?_ | refine go_int ?_ | refine go_intb ?_ | refine go_abs ?_ | refine go_lent ?_ | refine go_lt ?_ | refine go_le ?_ | refine go_gt ?_ | refine go_ge ?_ | refine go_eqi ?_ | refine go_nei ?_ | refine go_eqs ?_ | refine go_nes ?_ | refine go_tb ?_ | refine go_t ?_ | refine go_f ?_ | refine go_ptS ?_ | refine go_ptN ?_ | (apply go_glo; with_unfolding_all exact rfl) | (apply go_lenl; (first | assumption | exact List.getElem?_set_self (by first | assumption | omega) | exact List.getElem?_concat_length)) | (apply go_lenf; (first | assumption | exact List.getElem?_set_self (by first | assumption | omega) | exact List.getElem?_concat_length)) | (apply go_il; (first | assumption | exact List.getElem?_set_self (by first | assumption | omega) | exact List.getElem?_concat_length); with_unfolding_all exact rfl; with_unfolding_all exact rfl) | (apply go_it; with_unfolding_all exact rfl; with_unfolding_all exact rfl) | (apply go_set; (first | assumption | exact List.getElem?_set_self (by first | assumption | omega) | exact List.getElem?_concat_length); with_unfolding_all exact rfl) | (apply go_bt; with_unfolding_all exact rfl) | (apply go_bf; with_unfolding_all exact rfl) | refine And.intro (by with_unfolding_all exact rfl) ?_ | dsimp only [wipeE, List.set_cons_zero, List.set_cons_succ, set_0, set_s]))
    refine small n0 (by omega) ?_
    repeat (with_reducible (first | refine go_Bnil ?_ | refine go_Bcons ?_ | refine go_asg ?_ | refine go_seti ?_ | refine go_exp ?_ | refine go_ret ?_ | refine go_if ?_ | refine go_var ?_ | refine go_con ?_ | refine go_bin ?_ | refine go_neg ?_ | refine go_cmp ?_ | refine go_chain ?_ | refine go_isN ?_ | refine go_and ?_ | refine go_or ?_ | refine go_not ?_ | refine go_call ?_ | refine go_pr ?_ | refine go_me ?_ | refine go_isi ?_ | refine go_idx ?_ | refine go_sli ?_ | refine go_abs0 ?_ | refine go_tup ?_ | refine go_lst ?_ | refine go_fstr ?_ | refine go_Tcmp ?_ | refine go_Tchain ?_ | refine go_TisN ?_ | refine go_Tand ?_ | refine go_Tor ?_ | refine go_Tnot ?_ | refine go_Ttv ?_ | refine go_nil ?_ | refine go_cons ?_ | refine go_Fnil ?_ | refine go_Fcons ?_ | refine go_comp ?_ | refine go_sq ?_ | refine go_enm ?_ | refine go_rng1 ?_ | refine go_for ?_ | refine go_v0 ?_ | refine go_vs ?_ | refine go_add ?_ | refine go_sub ?_ | refine go_int ?_ | refine go_intb ?_ | refine go_abs ?_ | refine go_lent ?_ | refine go_lt ?_ | refine go_le ?_ | refine go_gt ?_ | refine go_ge ?_ | refine go_eqi ?_ | refine go_nei ?_ | refine go_eqs ?_ | refine go_nes ?_ | refine go_tb ?_ | refine go_t ?_ | refine go_f ?_ | refine go_ptS ?_ | refine go_ptN ?_ | (apply go_glo; with_unfolding_all exact rfl) | (apply go_lenl; (first | assumption | exact List.getElem?_set_self (by first | assumption | omega) | exact List.getElem?_concat_length)) | (apply go_lenf; (first | assumption | exact List.getElem?_set_self (by first | assumption | omega) | exact List.getElem?_concat_length)) | (apply go_il; (first | assumption | exact List.getElem?_set_self (by first | assumption | omega) | exact List.getElem?_concat_length); with_unfolding_all exact rfl; with_unfolding_all exact rfl) | (apply go_it; with_unfolding_all exact rfl; with_unfolding_all exact rfl) | (apply go_set; (first | assumption | exact List.getElem?_set_self (by first | assumption | omega) | exact List.getElem?_concat_length); with_unfolding_all exact rfl) | (apply go_bt; with_unfolding_all exact rfl) | (apply go_bf; with_unfolding_all exact rfl) | refine And.intro (by with_unfolding_all exact rfl) ?_ | dsimp only [wipeE, List.set_cons_zero, List.set_cons_succ, set_0, set_s]))
    refine callform ⟨x, m, rfl, hx, m0, m1⟩ ?_
    repeat (with_reducible (first | refine go_Bnil ?_ | refine go_Bcons ?_ | refine go_asg ?_ | refine go_seti ?_ | refine go_exp ?_ | refine go_ret ?_ | refine go_if ?_ | refine go_var ?_ | refine go_con ?_ | refine go_bin ?_ | refine go_neg ?_ | refine go_cmp ?_ | refine go_chain ?_ | refine go_isN ?_ | refine go_and ?_ | refine go_or ?_ | refine go_not ?_ | refine go_call ?_ | refine go_pr ?_ | refine go_me ?_ | refine go_isi ?_ | refine go_idx ?_ | refine go_sli ?_ | refine go_abs0 ?_ | refine go_tup ?_ | refine go_lst ?_ | refine go_fstr ?_ | refine go_Tcmp ?_ | refine go_Tchain ?_ | refine go_TisN ?_ | refine go_Tand ?_ | refine go_Tor ?_ | refine go_Tnot ?_ | refine go_Ttv ?_ | refine go_nil ?_ | refine go_cons ?_ | refine go_Fnil ?_ | refine go_Fcons ?_ | refine go_comp ?_ | refine go_sq ?_ | refine go_enm ?_ | refine go_rng1 ?_ | refine go_for ?_ | refine go_v0 ?_ | refine go_vs ?_ | refine go_add ?_ | refine go_sub ?_ | refine go_int ?_ | refine go_intb ?_ | refine go_abs ?_ | refine go_lent ?_ | refine go_lt ?_ | refine go_le ?_ | refine go_gt ?_ | refine go_ge ?_ | refine go_eqi ?_ | refine go_nei ?_ | refine go_eqs ?_ | refine go_nes ?_ | refine go_tb ?_ | refine go_t ?_ | refine go_f ?_ | refine go_ptS ?_ | refine go_ptN ?_ | (apply go_glo; with_unfolding_all exact rfl) | (apply go_lenl; (first | assumption | exact List.getElem?_set_self (by first | assumption | omega) | exact List.getElem?_concat_length)) | (apply go_lenf; (first | assumption | exact List.getElem?_set_self (by first | assumption | omega) | exact List.getElem?_concat_length)) | (apply go_il; (first | assumption | exact List.getElem?_set_self (by first | assumption | omega) | exact List.getElem?_concat_length); with_unfolding_all exact rfl; with_unfolding_all exact rfl) | (apply go_it; with_unfolding_all exact rfl; with_unfolding_all exact rfl) | (apply go_set; (first | assumption | exact List.getElem?_set_self (by first | assumption | omega) | exact List.getElem?_concat_length); with_unfolding_all exact rfl) | (apply go_bt; with_unfolding_all exact rfl) | (apply go_bf; with_unfolding_all exact rfl) | refine And.intro (by with_unfolding_all exact rfl) ?_ | dsimp only [wipeE, List.set_cons_zero, List.set_cons_succ, set_0, set_s]))
    refine go_fs (big (by simp)) ⟨big (by simp), ?_⟩
    repeat (with_reducible (first | refine go_Bnil ?_ | refine go_Bcons ?_ | refine go_asg ?_ | refine go_seti ?_ | refine go_exp ?_ | refine go_ret ?_ | refine go_if ?_ | refine go_var ?_ | refine go_con ?_ | refine go_bin ?_ | refine go_neg ?_ | refine go_cmp ?_ | refine go_chain ?_ | refine go_isN ?_ | refine go_and ?_ | refine go_or ?_ | refine go_not ?_ | refine go_call ?_ | refine go_pr ?_ | refine go_me ?_ | refine go_isi ?_ | refine go_idx ?_ | refine go_sli ?_ | refine go_abs0 ?_ | refine go_tup ?_ | refine go_lst ?_ | refine go_fstr ?_ | refine go_Tcmp ?_ | refine go_Tchain ?_ | refine go_TisN ?_ | refine go_Tand ?_ | refine go_Tor ?_ | refine go_Tnot ?_ | refine go_Ttv ?_ | refine go_nil ?_ | refine go_cons ?_ | refine go_Fnil ?_ | refine go_Fcons ?_ | refine go_comp ?_ | refine go_sq ?_ | refine go_enm ?_ | refine go_rng1 ?_ | refine go_for ?_ | refine go_v0 ?_ | refine go_vs ?_ | refine go_add ?_ | refine go_sub ?_ | refine go_int ?_ | refine go_intb ?_ | refine go_abs ?_ | refine go_lent ?_ | refine go_lt ?_ | refine go_le ?_ | refine go_gt ?_ | refine go_ge ?_ | refine go_eqi ?_ | refine go_nei ?_ | refine go_eqs ?_ | refine go_nes ?_ | refine go_tb ?_ | refine go_t ?_ | refine go_f ?_ | refine go_ptS ?_ | refine go_ptN ?_ | (apply go_glo; with_unfolding_all exact rfl) | (apply go_lenl; (first | assumption | exact List.getElem?_set_self (by first | assumption | omega) | exact List.getElem?_concat_length)) | (apply go_lenf; (first | assumption | exact List.getElem?_set_self (by first | assumption | omega) | exact List.getElem?_concat_length)) | (apply go_il; (first | assumption | exact List.getElem?_set_self (by first | assumption | omega) | exact List.getElem?_concat_length); with_unfolding_all exact rfl; with_unfolding_all exact rfl) | (apply go_it; with_unfolding_all exact rfl; with_unfolding_all exact rfl) | (apply go_set; (first | assumption | exact List.getElem?_set_self (by first | assumption | omega) | exact List.getElem?_concat_length); with_unfolding_all exact rfl) | (apply go_bt; with_unfolding_all exact rfl) | (apply go_bf; with_unfolding_all exact rfl) | refine And.intro (by with_unfolding_all exact rfl) ?_ | dsimp only [wipeE, List.set_cons_zero, List.set_cons_succ, set_0, set_s]))
    refine go_fi (log_ok n0 (by omega)) ?_
    rw [dec_dg n0 (by omega)]
    refine ⟨big (by unfold dg; simp), ?_⟩
    repeat (with_reducible (first | refine go_Bnil ?_ | refine go_Bcons ?_ | refine go_asg ?_ | refine go_seti ?_ | refine go_exp ?_ | refine go_ret ?_ | refine go_if ?_ | refine go_var ?_ | refine go_con ?_ | refine go_bin ?_ | refine go_neg ?_ | refine go_cmp ?_ | refine go_chain ?_ | refine go_isN ?_ | refine go_and ?_ | refine go_or ?_ | refine go_not ?_ | refine go_call ?_ | refine go_pr ?_ | refine go_me ?_ | refine go_isi ?_ | refine go_idx ?_ | refine go_sli ?_ | refine go_abs0 ?_ | refine go_tup ?_ | refine go_lst ?_ | refine go_fstr ?_ | refine go_Tcmp ?_ | refine go_Tchain ?_ | refine go_TisN ?_ | refine go_Tand ?_ | refine go_Tor ?_ | refine go_Tnot ?_ | refine go_Ttv ?_ | refine go_nil ?_ | refine go_cons ?_ | refine go_Fnil ?_ | refine go_Fcons ?_ | refine go_comp ?_ | refine go_sq ?_ | refine go_enm ?_ | refine go_rng1 ?_ | refine go_for ?_ | refine go_v0 ?_ | refine go_vs ?_ | refine go_add ?_ | refine go_sub ?_ | refine go_int ?_ | refine go_intb ?_ | refine go_abs ?_ | refine go_lent ?_ | refine go_lt ?_ | refine go_le ?_ | refine go_gt ?_ | refine go_ge ?_ | refine go_eqi ?_ | refine go_nei ?_ | refine go_eqs ?_ | refine go_nes ?_ | refine go_tb ?_ | refine go_t ?_ | refine go_f ?_ | refine go_ptS ?_ | refine go_ptN ?_ | (apply go_glo; with_unfolding_all exact rfl) | (apply go_lenl; (first | assumption | exact List.getElem?_set_self (by first | assumption | omega) | exact List.getElem?_concat_length)) | (apply go_lenf; (first | assumption | exact List.getElem?_set_self (by first | assumption | omega) | exact List.getElem?_concat_length)) | (apply go_il; (first | assumption | exact List.getElem?_set_self (by first | assumption | omega) | exact List.getElem?_concat_length); with_unfolding_all exact rfl; with_unfolding_all exact rfl) | (apply go_it; with_unfolding_all exact rfl; with_unfolding_all exact rfl) | (apply go_set; (first | assumption | exact List.getElem?_set_self (by first | assumption | omega) | exact List.getElem?_concat_length); with_unfolding_all exact rfl) | (apply go_bt; with_unfolding_all exact rfl) | (apply go_bf; with_unfolding_all exact rfl) | refine And.intro (by with_unfolding_all exact rfl) ?_ | dsimp only [wipeE, List.set_cons_zero, List.set_cons_succ, set_0, set_s]))
    refine go_fs (big (by simp)) ⟨big (by unfold dg; simp), ?_⟩
    repeat (with_reducible (first | refine go_Bnil ?_ | refine go_Bcons ?_ | refine go_asg ?_ | refine go_seti ?_ | refine go_exp ?_ | refine go_ret ?_ | refine go_if ?_ | refine go_var ?_ | refine go_con ?_ | refine go_bin ?_ | refine go_neg ?_ | refine go_cmp ?_ | refine go_chain ?_ | refine go_isN ?_ | refine go_and ?_ | refine go_or ?_ | refine go_not ?_ | refine go_call ?_ | refine go_pr ?_ | refine go_me ?_ | refine go_isi ?_ | refine go_idx ?_ | refine go_sli ?_ | refine go_abs0 ?_ | refine go_tup ?_ | refine go_lst ?_ | refine go_fstr ?_ | refine go_Tcmp ?_ | refine go_Tchain ?_ | refine go_TisN ?_ | refine go_Tand ?_ | refine go_Tor ?_ | refine go_Tnot ?_ | refine go_Ttv ?_ | refine go_nil ?_ | refine go_cons ?_ | refine go_Fnil ?_ | refine go_Fcons ?_ | refine go_comp ?_ | refine go_sq ?_ | refine go_enm ?_ | refine go_rng1 ?_ | refine go_for ?_ | refine go_v0 ?_ | refine go_vs ?_ | refine go_add ?_ | refine go_sub ?_ | refine go_int ?_ | refine go_intb ?_ | refine go_abs ?_ | refine go_lent ?_ | refine go_lt ?_ | refine go_le ?_ | refine go_gt ?_ | refine go_ge ?_ | refine go_eqi ?_ | refine go_nei ?_ | refine go_eqs ?_ | refine go_nes ?_ | refine go_tb ?_ | refine go_t ?_ | refine go_f ?_ | refine go_ptS ?_ | refine go_ptN ?_ | (apply go_glo; with_unfolding_all exact rfl) | (apply go_lenl; (first | assumption | exact List.getElem?_set_self (by first | assumption | omega) | exact List.getElem?_concat_length)) | (apply go_lenf; (first | assumption | exact List.getElem?_set_self (by first | assumption | omega) | exact List.getElem?_concat_length)) | (apply go_il; (first | assumption | exact List.getElem?_set_self (by first | assumption | omega) | exact List.getElem?_concat_length); with_unfolding_all exact rfl; with_unfolding_all exact rfl) | (apply go_it; with_unfolding_all exact rfl; with_unfolding_all exact rfl) | (apply go_set; (first | assumption | exact List.getElem?_set_self (by first | assumption | omega) | exact List.getElem?_concat_length); with_unfolding_all exact rfl) | (apply go_bt; with_unfolding_all exact rfl) | (apply go_bf; with_unfolding_all exact rfl) | refine And.intro (by with_unfolding_all exact rfl) ?_ | dsimp only [wipeE, List.set_cons_zero, List.set_cons_succ, set_0, set_s]))
    refine callwords hx m0 m1 ?_
    refine go_fs (big (by omega)) ⟨big (by unfold dg; simp; omega), ?_⟩
    repeat (with_reducible (first | refine go_Bnil ?_ | refine go_Bcons ?_ | refine go_asg ?_ | refine go_seti ?_ | refine go_exp ?_ | refine go_ret ?_ | refine go_if ?_ | refine go_var ?_ | refine go_con ?_ | refine go_bin ?_ | refine go_neg ?_ | refine go_cmp ?_ | refine go_chain ?_ | refine go_isN ?_ | refine go_and ?_ | refine go_or ?_ | refine go_not ?_ | refine go_call ?_ | refine go_pr ?_ | refine go_me ?_ | refine go_isi ?_ | refine go_idx ?_ | refine go_sli ?_ | refine go_abs0 ?_ | refine go_tup ?_ | refine go_lst ?_ | refine go_fstr ?_ | refine go_Tcmp ?_ | refine go_Tchain ?_ | refine go_TisN ?_ | refine go_Tand ?_ | refine go_Tor ?_ | refine go_Tnot ?_ | refine go_Ttv ?_ | refine go_nil ?_ | refine go_cons ?_ | refine go_Fnil ?_ | refine go_Fcons ?_ | refine go_comp ?_ | refine go_sq ?_ | refine go_enm ?_ | refine go_rng1 ?_ | refine go_for ?_ | refine go_v0 ?_ | refine go_vs ?_ | refine go_add ?_ | refine go_sub ?_ | refine go_int ?_ | refine go_intb ?_ | refine go_abs ?_ | refine go_lent ?_ | refine go_lt ?_ | refine go_le ?_ | refine go_gt ?_ | refine go_ge ?_ | refine go_eqi ?_ | refine go_nei ?_ | refine go_eqs ?_ | refine go_nes ?_ | refine go_tb ?_ | refine go_t ?_ | refine go_f ?_ | refine go_ptS ?_ | refine go_ptN ?_ | (apply go_glo; with_unfolding_all exact rfl) | (apply go_lenl; (first | assumption | exact List.getElem?_set_self (by first | assumption | omega) | exact List.getElem?_concat_length)) | (apply go_lenf; (first | assumption | exact List.getElem?_set_self (by first | assumption | omega) | exact List.getElem?_concat_length)) | (apply go_il; (first | assumption | exact List.getElem?_set_self (by first | assumption | omega) | exact List.getElem?_concat_length); with_unfolding_all exact rfl; with_unfolding_all exact rfl) | (apply go_it; with_unfolding_all exact rfl; with_unfolding_all exact rfl) | (apply go_set; (first | assumption | exact List.getElem?_set_self (by first | assumption | omega) | exact List.getElem?_concat_length); with_unfolding_all exact rfl) | (apply go_bt; with_unfolding_all exact rfl) | (apply go_bf; with_unfolding_all exact rfl) | refine And.intro (by with_unfolding_all exact rfl) ?_ | dsimp only [wipeE, List.set_cons_zero, List.set_cons_succ, set_0, set_s]))
    exact hq
theorem in_01 {n : Int} (h0 : 0 ≤ n) (h1 : n < 2) : inD (.str (dg n)) [.str [48], .str [49]] = true := by
  have : n = 0 ∨ n = 1 := by omega
  rcases this with e | e <;> subst e <;> decide +kernel
inductive ItemWs : D → List (List Nat) → Prop
  | step (n : Int) (n0 : 0 ≤ n) (n1 : n < 2) : ItemWs (.tup [.str wStep, .int n]) [wStep, dg n]
  | call (n m : Int) (x : List Nat) (n0 : 0 ≤ n) (n1 : n < 2) (hx : IsName x) (m0 : 0 ≤ m) (m1 : m < 9) : ItemWs (.tup [.str wCall, .int n, .tup [.str x, .int m]]) [wCall, dg n, x, dg m]
theorem itemof {k w : Nat} {d : D} {ws : List (List Nat)} {st : Store} {Q : QE} {X : QX} (h : ItemWs d ws) (e : st[w]? = some (.lst (ws.map D.str))) (hq : ∀ s2, Q d (st ++ s2)) : Call T (k + 3) 11 [.ref w] st Q X := by
  refine call_go f_item_of.fn rfl rfl ?_
  show wpB T (Call T (k + 2)) none b_item_of [some (.ref w), none, none] st _
  unfold b_item_of
  cases h with
  | step n n0 n1 =>
    have e : st[w]? = some (.lst [.str [115, 116, 101, 112], .str (dg n)]) := e
    repeat (with_reducible (first | refine go_Bnil ?_ | refine go_Bcons ?_ | refine go_asg ?_ | refine go_seti ?_ | refine go_exp ?_ | refine go_ret ?_ | refine go_if ?_ | refine go_var ?_ | refine go_con ?_ | refine go_bin ?_ | refine go_neg ?_ | refine go_cmp ?_ | refine go_chain ?_ | refine go_isN ?_ | refine go_and ?_ | refine go_or ?_ | refine go_not ?_ | refine go_call ?_ | refine go_pr ?_ | refine go_me ?_ | refine go_isi ?_ | refine go_idx ?_ | refine go_sli ?_ | refine go_abs0 ?_ | refine go_tup ?_ | refine go_lst ?_ | refine go_fstr ?_ | refine go_Tcmp ?_ | refine go_Tchain ?_ | refine go_TisN ?_ | refine go_Tand ?_ | refine go_Tor ?_ | refine go_Tnot ?_ | refine go_Ttv ?_ | refine go_nil ?_ | refine go_cons ?_ | refine go_Fnil ?_ | refine go_Fcons ?_ | refine go_comp ?_ | refine go_sq ?_ | refine go_enm ?_ | refine go_rng1 ?_ | refine go_for ?_ | refine go_v0 ?_ | refine go_vs ?_ | refine go_add ?_ | refine go_sub ?_ | refine go_int ?_ | refine go_intb ?_ | refine go_abs ?_ | refine go_lent ?_ | refine go_lt ?_ | refine go_le ?_ | refine go_gt ?_ | refine go_ge ?_ | refine go_eqi ?_ | refine go_nei ?_ | refine go_eqs ?_ | refine go_nes ?_ | refine go_tb ?_ | refine go_t ?_ | refine go_f ?_ | refine go_ptS ?_ | refine go_ptN ?_ | (apply go_glo; with_unfolding_all exact rfl) | (apply go_lenl; (first | assumption | exact List.getElem?_set_self (by first | assumption | omega) | exact List.getElem?_concat_length)) | (apply go_lenf; (first | assumption | exact List.getElem?_set_self (by first | assumption | omega) | exact List.getElem?_concat_length)) | (apply go_il; (first | assumption | exact List.getElem?_set_self (by first | assumption | omega) | exact List.getElem?_concat_length); with_unfolding_all exact rfl; with_unfolding_all exact rfl) | (apply go_it; with_unfolding_all exact rfl; with_unfolding_all exact rfl) | (apply go_set; (first | assumption | exact List.getElem?_set_self (by first | assumption | omega) | exact List.getElem?_concat_length); with_unfolding_all exact rfl) | (apply go_bt; with_unfolding_all exact rfl) | (apply go_bf; with_unfolding_all exact rfl) | refine And.intro (by with_unfolding_all exact rfl) ?_ | dsimp only [wipeE, List.set_cons_zero, List.set_cons_succ, set_0, set_s]))
    refine go_nint rfl (by decide +kernel) (in_01 n0 n1) ?_
    repeat (with_reducible (first | refine go_Bnil ?_ | refine go_Bcons ?_ | refine go_asg ?_ | refine go_seti ?_ | refine go_exp ?_ | refine go_ret ?_ | refine go_if ?_ | refine go_var ?_ | refine go_con ?_ | refine go_bin ?_ | refine go_neg ?_ | refine go_cmp ?_ | refine go_chain ?_ | refine go_isN ?_ | refine go_and ?_ | refine go_or ?_ | refine go_not ?_ | refine go_call ?_ | refine go_pr ?_ | refine go_me ?_ | refine go_isi ?_ | refine go_idx ?_ | refine go_sli ?_ | refine go_abs0 ?_ | refine go_tup ?_ | refine go_lst ?_ | refine go_fstr ?_ | refine go_Tcmp ?_ | refine go_Tchain ?_ | refine go_TisN ?_ | refine go_Tand ?_ | refine go_Tor ?_ | refine go_Tnot ?_ | refine go_Ttv ?_ | refine go_nil ?_ | refine go_cons ?_ | refine go_Fnil ?_ | refine go_Fcons ?_ | refine go_comp ?_ | refine go_sq ?_ | refine go_enm ?_ | refine go_rng1 ?_ | refine go_for ?_ | refine go_v0 ?_ | refine go_vs ?_ | refine go_add ?_ | refine go_sub ?_ | refine go_int ?_ | refine go_intb ?_ | refine go_abs ?_ | refine go_lent ?_ | refine go_lt ?_ | refine go_le ?_ | refine go_gt ?_ | refine go_ge ?_ | refine go_eqi ?_ | refine go_nei ?_ | refine go_eqs ?_ | refine go_nes ?_ | refine go_tb ?_ | refine go_t ?_ | refine go_f ?_ | refine go_ptS ?_ | refine go_ptN ?_ | (apply go_glo; with_unfolding_all exact rfl) | (apply go_lenl; (first | assumption | exact List.getElem?_set_self (by first | assumption | omega) | exact List.getElem?_concat_length)) | (apply go_lenf; (first | assumption | exact List.getElem?_set_self (by first | assumption | omega) | exact List.getElem?_concat_length)) | (apply go_il; (first | assumption | exact List.getElem?_set_self (by first | assumption | omega) | exact List.getElem?_concat_length); with_unfolding_all exact rfl; with_unfolding_all exact rfl) | (apply go_it; with_unfolding_all exact rfl; with_unfolding_all exact rfl) | (apply go_set; (first | assumption | exact List.getElem?_set_self (by first | assumption | omega) | exact List.getElem?_concat_length); with_unfolding_all exact rfl) | (apply go_bt; with_unfolding_all exact rfl) | (apply go_bf; with_unfolding_all exact rfl) | refine And.intro (by with_unfolding_all exact rfl) ?_ | dsimp only [wipeE, List.set_cons_zero, List.set_cons_succ, set_0, set_s]))
    refine go_ints (int_dg n0 (by omega)) (by unfold dg; simp) ?_
    repeat (with_reducible (first | refine go_Bnil ?_ | refine go_Bcons ?_ | refine go_asg ?_ | refine go_seti ?_ | refine go_exp ?_ | refine go_ret ?_ | refine go_if ?_ | refine go_var ?_ | refine go_con ?_ | refine go_bin ?_ | refine go_neg ?_ | refine go_cmp ?_ | refine go_chain ?_ | refine go_isN ?_ | refine go_and ?_ | refine go_or ?_ | refine go_not ?_ | refine go_call ?_ | refine go_pr ?_ | refine go_me ?_ | refine go_isi ?_ | refine go_idx ?_ | refine go_sli ?_ | refine go_abs0 ?_ | refine go_tup ?_ | refine go_lst ?_ | refine go_fstr ?_ | refine go_Tcmp ?_ | refine go_Tchain ?_ | refine go_TisN ?_ | refine go_Tand ?_ | refine go_Tor ?_ | refine go_Tnot ?_ | refine go_Ttv ?_ | refine go_nil ?_ | refine go_cons ?_ | refine go_Fnil ?_ | refine go_Fcons ?_ | refine go_comp ?_ | refine go_sq ?_ | refine go_enm ?_ | refine go_rng1 ?_ | refine go_for ?_ | refine go_v0 ?_ | refine go_vs ?_ | refine go_add ?_ | refine go_sub ?_ | refine go_int ?_ | refine go_intb ?_ | refine go_abs ?_ | refine go_lent ?_ | refine go_lt ?_ | refine go_le ?_ | refine go_gt ?_ | refine go_ge ?_ | refine go_eqi ?_ | refine go_nei ?_ | refine go_eqs ?_ | refine go_nes ?_ | refine go_tb ?_ | refine go_t ?_ | refine go_f ?_ | refine go_ptS ?_ | refine go_ptN ?_ | (apply go_glo; with_unfolding_all exact rfl) | (apply go_lenl; (first | assumption | exact List.getElem?_set_self (by first | assumption | omega) | exact List.getElem?_concat_length)) | (apply go_lenf; (first | assumption | exact List.getElem?_set_self (by first | assumption | omega) | exact List.getElem?_concat_length)) | (apply go_il; (first | assumption | exact List.getElem?_set_self (by first | assumption | omega) | exact List.getElem?_concat_length); with_unfolding_all exact rfl; with_unfolding_all exact rfl) | (apply go_it; with_unfolding_all exact rfl; with_unfolding_all exact rfl) | (apply go_set; (first | assumption | exact List.getElem?_set_self (by first | assumption | omega) | exact List.getElem?_concat_length); with_unfolding_all exact rfl) | (apply go_bt; with_unfolding_all exact rfl) | (apply go_bf; with_unfolding_all exact rfl) | refine And.intro (by with_unfolding_all exact rfl) ?_ | dsimp only [wipeE, List.set_cons_zero, List.set_cons_succ, set_0, set_s]))
    have q := hq []
    rw [List.append_nil] at q
    exact q
  | call n m x n0 n1 hx m0 m1 =>
    have e : st[w]? = some (.lst [.str [99, 97, 108, 108], .str (dg n), .str x, .str (dg m)]) := e
    repeat (with_reducible (first | refine go_Bnil ?_ | refine go_Bcons ?_ | refine go_asg ?_ | refine go_seti ?_ | refine go_exp ?_ | refine go_ret ?_ | refine go_if ?_ | refine go_var ?_ | refine go_con ?_ | refine go_bin ?_ | refine go_neg ?_ | refine go_cmp ?_ | refine go_chain ?_ | refine go_isN ?_ | refine go_and ?_ | refine go_or ?_ | refine go_not ?_ | refine go_call ?_ | refine go_pr ?_ | refine go_me ?_ | refine go_isi ?_ | refine go_idx ?_ | refine go_sli ?_ | refine go_abs0 ?_ | refine go_tup ?_ | refine go_lst ?_ | refine go_fstr ?_ | refine go_Tcmp ?_ | refine go_Tchain ?_ | refine go_TisN ?_ | refine go_Tand ?_ | refine go_Tor ?_ | refine go_Tnot ?_ | refine go_Ttv ?_ | refine go_nil ?_ | refine go_cons ?_ | refine go_Fnil ?_ | refine go_Fcons ?_ | refine go_comp ?_ | refine go_sq ?_ | refine go_enm ?_ | refine go_rng1 ?_ | refine go_for ?_ | refine go_v0 ?_ | refine go_vs ?_ | refine go_add ?_ | refine go_sub ?_ | refine go_int ?_ | refine go_intb ?_ | refine go_abs ?_ | refine go_lent ?_ | refine go_lt ?_ | refine go_le ?_ | refine go_gt ?_ | refine go_ge ?_ | refine go_eqi ?_ | refine go_nei ?_ | refine go_eqs ?_ | refine go_nes ?_ | refine go_tb ?_ | refine go_t ?_ | refine go_f ?_ | refine go_ptS ?_ | refine go_ptN ?_ | (apply go_glo; with_unfolding_all exact rfl) | (apply go_lenl; (first | assumption | exact List.getElem?_set_self (by first | assumption | omega) | exact List.getElem?_concat_length)) | (apply go_lenf; (first | assumption | exact List.getElem?_set_self (by first | assumption | omega) | exact List.getElem?_concat_length)) | (apply go_il; (first | assumption | exact List.getElem?_set_self (by first | assumption | omega) | exact List.getElem?_concat_length); with_unfolding_all exact rfl; with_unfolding_all exact rfl) | (apply go_it; with_unfolding_all exact rfl; with_unfolding_all exact rfl) | (apply go_set; (first | assumption | exact List.getElem?_set_self (by first | assumption | omega) | exact List.getElem?_concat_length); with_unfolding_all exact rfl) | (apply go_bt; with_unfolding_all exact rfl) | (apply go_bf; with_unfolding_all exact rfl) | refine And.intro (by with_unfolding_all exact rfl) ?_ | dsimp only [wipeE, List.set_cons_zero, List.set_cons_succ, set_0, set_s]))
    refine go_nint rfl (by decide +kernel) (in_01 n0 n1) ?_
    repeat (with_reducible (first | refine go_Bnil ?_ | refine go_Bcons ?_ | refine go_asg ?_ | refine go_seti ?_ | refine go_exp ?_ | refine go_ret ?_ | refine go_if ?_ | refine go_var ?_ | refine go_con ?_ | refine go_bin ?_ | refine go_neg ?_ | refine go_cmp ?_ | refine go_chain ?_ | refine go_isN ?_ | refine go_and ?_ | refine go_or ?_ | refine go_not ?_ | refine go_call ?_ | refine go_pr ?_ | refine go_me ?_ | refine go_isi ?_ | refine go_idx ?_ | refine go_sli ?_ | refine go_abs0 ?_ | refine go_tup ?_ | refine go_lst ?_ | refine go_fstr ?_ | refine go_Tcmp ?_ | refine go_Tchain ?_ | refine go_TisN ?_ | refine go_Tand ?_ | refine go_Tor ?_ | refine go_Tnot ?_ | refine go_Ttv ?_ | refine go_nil ?_ | refine go_cons ?_ | refine go_Fnil ?_ | refine go_Fcons ?_ | refine go_comp ?_ | refine go_sq ?_ | refine go_enm ?_ | refine go_rng1 ?_ | refine go_for ?_ | refine go_v0 ?_ | refine go_vs ?_ | refine go_add ?_ | refine go_sub ?_ | refine go_int ?_ | refine go_intb ?_ | refine go_abs ?_ | refine go_lent ?_ | refine go_lt ?_ | refine go_le ?_ | refine go_gt ?_ | refine go_ge ?_ | refine go_eqi ?_ | refine go_nei ?_ | refine go_eqs ?_ | refine go_nes ?_ | refine go_tb ?_ | refine go_t ?_ | refine go_f ?_ | refine go_ptS ?_ | refine go_ptN ?_ | (apply go_glo; with_unfolding_all exact rfl) | (apply go_lenl; (first | assumption | exact List.getElem?_set_self (by first | assumption | omega) | exact List.getElem?_concat_length)) | (apply go_lenf; (first | assumption | exact List.getElem?_set_self (by first | assumption | omega) | exact List.getElem?_concat_length)) | (apply go_il; (first | assumption | exact List.getElem?_set_self (by first | assumption | omega) | exact List.getElem?_concat_length); with_unfolding_all exact rfl; with_unfolding_all exact rfl) | (apply go_it; with_unfolding_all exact rfl; with_unfolding_all exact rfl) | (apply go_set; (first | assumption | exact List.getElem?_set_self (by first | assumption | omega) | exact List.getElem?_concat_length); with_unfolding_all exact rfl) | (apply go_bt; with_unfolding_all exact rfl) | (apply go_bf; with_unfolding_all exact rfl) | refine And.intro (by with_unfolding_all exact rfl) ?_ | dsimp only [wipeE, List.set_cons_zero, List.set_cons_succ, set_0, set_s]))
    refine go_ints (int_dg n0 (by omega)) (by unfold dg; simp) ?_
    repeat (with_reducible (first | refine go_Bnil ?_ | refine go_Bcons ?_ | refine go_asg ?_ | refine go_seti ?_ | refine go_exp ?_ | refine go_ret ?_ | refine go_if ?_ | refine go_var ?_ | refine go_con ?_ | refine go_bin ?_ | refine go_neg ?_ | refine go_cmp ?_ | refine go_chain ?_ | refine go_isN ?_ | refine go_and ?_ | refine go_or ?_ | refine go_not ?_ | refine go_call ?_ | refine go_pr ?_ | refine go_me ?_ | refine go_isi ?_ | refine go_idx ?_ | refine go_sli ?_ | refine go_abs0 ?_ | refine go_tup ?_ | refine go_lst ?_ | refine go_fstr ?_ | refine go_Tcmp ?_ | refine go_Tchain ?_ | refine go_TisN ?_ | refine go_Tand ?_ | refine go_Tor ?_ | refine go_Tnot ?_ | refine go_Ttv ?_ | refine go_nil ?_ | refine go_cons ?_ | refine go_Fnil ?_ | refine go_Fcons ?_ | refine go_comp ?_ | refine go_sq ?_ | refine go_enm ?_ | refine go_rng1 ?_ | refine go_for ?_ | refine go_v0 ?_ | refine go_vs ?_ | refine go_add ?_ | refine go_sub ?_ | refine go_int ?_ | refine go_intb ?_ | refine go_abs ?_ | refine go_lent ?_ | refine go_lt ?_ | refine go_le ?_ | refine go_gt ?_ | refine go_ge ?_ | refine go_eqi ?_ | refine go_nei ?_ | refine go_eqs ?_ | refine go_nes ?_ | refine go_tb ?_ | refine go_t ?_ | refine go_f ?_ | refine go_ptS ?_ | refine go_ptN ?_ | (apply go_glo; with_unfolding_all exact rfl) | (apply go_lenl; (first | assumption | exact List.getElem?_set_self (by first | assumption | omega) | exact List.getElem?_concat_length)) | (apply go_lenf; (first | assumption | exact List.getElem?_set_self (by first | assumption | omega) | exact List.getElem?_concat_length)) | (apply go_il; (first | assumption | exact List.getElem?_set_self (by first | assumption | omega) | exact List.getElem?_concat_length); with_unfolding_all exact rfl; with_unfolding_all exact rfl) | (apply go_it; with_unfolding_all exact rfl; with_unfolding_all exact rfl) | (apply go_set; (first | assumption | exact List.getElem?_set_self (by first | assumption | omega) | exact List.getElem?_concat_length); with_unfolding_all exact rfl) | (apply go_bt; with_unfolding_all exact rfl) | (apply go_bf; with_unfolding_all exact rfl) | refine And.intro (by with_unfolding_all exact rfl) ?_ | dsimp only [wipeE, List.set_cons_zero, List.set_cons_succ, set_0, set_s]))
    refine go_slil e (ys := [.str x, .str (dg m)]) rfl ?_
    repeat (with_reducible (first | refine go_Bnil ?_ | refine go_Bcons ?_ | refine go_asg ?_ | refine go_seti ?_ | refine go_exp ?_ | refine go_ret ?_ | refine go_if ?_ | refine go_var ?_ | refine go_con ?_ | refine go_bin ?_ | refine go_neg ?_ | refine go_cmp ?_ | refine go_chain ?_ | refine go_isN ?_ | refine go_and ?_ | refine go_or ?_ | refine go_not ?_ | refine go_call ?_ | refine go_pr ?_ | refine go_me ?_ | refine go_isi ?_ | refine go_idx ?_ | refine go_sli ?_ | refine go_abs0 ?_ | refine go_tup ?_ | refine go_lst ?_ | refine go_fstr ?_ | refine go_Tcmp ?_ | refine go_Tchain ?_ | refine go_TisN ?_ | refine go_Tand ?_ | refine go_Tor ?_ | refine go_Tnot ?_ | refine go_Ttv ?_ | refine go_nil ?_ | refine go_cons ?_ | refine go_Fnil ?_ | refine go_Fcons ?_ | refine go_comp ?_ | refine go_sq ?_ | refine go_enm ?_ | refine go_rng1 ?_ | refine go_for ?_ | refine go_v0 ?_ | refine go_vs ?_ | refine go_add ?_ | refine go_sub ?_ | refine go_int ?_ | refine go_intb ?_ | refine go_abs ?_ | refine go_lent ?_ | refine go_lt ?_ | refine go_le ?_ | refine go_gt ?_ | refine go_ge ?_ | refine go_eqi ?_ | refine go_nei ?_ | refine go_eqs ?_ | refine go_nes ?_ | refine go_tb ?_ | refine go_t ?_ | refine go_f ?_ | refine go_ptS ?_ | refine go_ptN ?_ | (apply go_glo; with_unfolding_all exact rfl) | (apply go_lenl; (first | assumption | exact List.getElem?_set_self (by first | assumption | omega) | exact List.getElem?_concat_length)) | (apply go_lenf; (first | assumption | exact List.getElem?_set_self (by first | assumption | omega) | exact List.getElem?_concat_length)) | (apply go_il; (first | assumption | exact List.getElem?_set_self (by first | assumption | omega) | exact List.getElem?_concat_length); with_unfolding_all exact rfl; with_unfolding_all exact rfl) | (apply go_it; with_unfolding_all exact rfl; with_unfolding_all exact rfl) | (apply go_set; (first | assumption | exact List.getElem?_set_self (by first | assumption | omega) | exact List.getElem?_concat_length); with_unfolding_all exact rfl) | (apply go_bt; with_unfolding_all exact rfl) | (apply go_bf; with_unfolding_all exact rfl) | refine And.intro (by with_unfolding_all exact rfl) ?_ | dsimp only [wipeE, List.set_cons_zero, List.set_cons_succ, set_0, set_s]))
    refine callof List.getElem?_concat_length hx m0 m1 ?_
    have e2 : (st ++ [O.lst [.str x, .str (dg m)]])[w]? = some (.lst [.str [99, 97, 108, 108], .str (dg n), .str x, .str (dg m)]) := by
      rw [List.getElem?_append_left (List.getElem?_eq_some_iff.mp e).1]
      exact e
    repeat (with_reducible (first | refine go_Bnil ?_ | refine go_Bcons ?_ | refine go_asg ?_ | refine go_seti ?_ | refine go_exp ?_ | refine go_ret ?_ | refine go_if ?_ | refine go_var ?_ | refine go_con ?_ | refine go_bin ?_ | refine go_neg ?_ | refine go_cmp ?_ | refine go_chain ?_ | refine go_isN ?_ | refine go_and ?_ | refine go_or ?_ | refine go_not ?_ | refine go_call ?_ | refine go_pr ?_ | refine go_me ?_ | refine go_isi ?_ | refine go_idx ?_ | refine go_sli ?_ | refine go_abs0 ?_ | refine go_tup ?_ | refine go_lst ?_ | refine go_fstr ?_ | refine go_Tcmp ?_ | refine go_Tchain ?_ | refine go_TisN ?_ | refine go_Tand ?_ | refine go_Tor ?_ | refine go_Tnot ?_ | refine go_Ttv ?_ | refine go_nil ?_ | refine go_cons ?_ | refine go_Fnil ?_ | refine go_Fcons ?_ | refine go_comp ?_ | refine go_sq ?_ | refine go_enm ?_ | refine go_rng1 ?_ | refine go_for ?_ | refine go_v0 ?_ | refine go_vs ?_ | refine go_add ?_ | refine go_sub ?_ | refine go_int ?_ | refine go_intb ?_ | refine go_abs ?_ | refine go_lent ?_ | refine go_lt ?_ | refine go_le ?_ | refine go_gt ?_ | refine go_ge ?_ | refine go_eqi ?_ | refine go_nei ?_ | refine go_eqs ?_ | refine go_nes ?_ | refine go_tb ?_ | refine go_t ?_ | refine go_f ?_ | refine go_ptS ?_ | refine go_ptN ?_ | (apply go_glo; with_unfolding_all exact rfl) | (apply go_lenl; (first | assumption | exact List.getElem?_set_self (by first | assumption | omega) | exact List.getElem?_concat_length)) | (apply go_lenf; (first | assumption | exact List.getElem?_set_self (by first | assumption | omega) | exact List.getElem?_concat_length)) | (apply go_il; (first | assumption | exact List.getElem?_set_self (by first | assumption | omega) | exact List.getElem?_concat_length); with_unfolding_all exact rfl; with_unfolding_all exact rfl) | (apply go_it; with_unfolding_all exact rfl; with_unfolding_all exact rfl) | (apply go_set; (first | assumption | exact List.getElem?_set_self (by first | assumption | omega) | exact List.getElem?_concat_length); with_unfolding_all exact rfl) | (apply go_bt; with_unfolding_all exact rfl) | (apply go_bf; with_unfolding_all exact rfl) | refine And.intro (by with_unfolding_all exact rfl) ?_ | dsimp only [wipeE, List.set_cons_zero, List.set_cons_succ, set_0, set_s]))
    exact hq _
end Y.K_k17
set_option linter.all false
set_option maxHeartbeats 4000000
set_option maxRecDepth 100000
namespace Y.K_k17
open Y PySem
theorem joinL_ne {s : List Nat} : ∀ {parts : List (List Nat)}, parts ≠ [] → (∀ p ∈ parts, p ≠ []) → TL.joinL s parts ≠ []
  | [], h, _ => absurd rfl h
  | [p], _, hp => hp p (by simp)
  | p :: q :: r, _, hp => fun e => hp p (by simp) (List.append_eq_nil_iff.mp (show p ++ (s ++ TL.joinL s (q :: r)) = [] from e)).1
theorem linesof {k : Nat} {parts : List (List Nat)} {st : Store} {Q : QE} {X : QX} (hp : ∀ p ∈ parts, p ≠ [] ∧ 10 ∉ p) (hl : (TL.joinL [10] parts).length ≤ 1000000) (hq : Q (.ref st.length) (st ++ [.lst (parts.map D.str)])) : Call T (k + 1) 7 [.str (TL.joinL [10] parts)] st Q X := by
  refine call_go f_lines_of.fn rfl rfl ?_
  show wpB T (Call T k) none b_lines_of [some (.str (TL.joinL [10] parts))] st _
  unfold b_lines_of
  cases parts with
  | nil =>
    repeat (with_reducible (first | refine go_Bnil ?_ | refine go_Bcons ?_ | refine go_asg ?_ | refine go_seti ?_ | refine go_exp ?_ | refine go_ret ?_ | refine go_if ?_ | refine go_var ?_ | refine go_con ?_ | refine go_bin ?_ | refine go_neg ?_ | refine go_cmp ?_ | refine go_chain ?_ | refine go_isN ?_ | refine go_and ?_ | refine go_or ?_ | refine go_not ?_ | refine go_call ?_ | refine go_pr ?_ | refine go_me ?_ | refine go_isi ?_ | refine go_idx ?_ | refine go_sli ?_ | refine go_abs0 ?_ | refine go_tup ?_ | refine go_lst ?_ | refine go_fstr ?_ | refine go_Tcmp ?_ | refine go_Tchain ?_ | refine go_TisN ?_ | refine go_Tand ?_ | refine go_Tor ?_ | refine go_Tnot ?_ | refine go_Ttv ?_ | refine go_nil ?_ | refine go_cons ?_ | refine go_Fnil ?_ | refine go_Fcons ?_ | refine go_comp ?_ | refine go_sq ?_ | refine go_enm ?_ | refine go_rng1 ?_ | refine go_for ?_ | refine go_v0 ?_ | refine go_vs ?_ | refine go_add ?_ | refine go_sub ?_ | refine go_int ?_ | refine go_intb ?_ | refine go_abs ?_ | refine go_lent ?_ | refine go_lt ?_ | refine go_le ?_ | refine go_gt ?_ | refine go_ge ?_ | refine go_eqi ?_ | refine go_nei ?_ | refine go_eqs ?_ | refine go_nes ?_ | refine go_tb ?_ | refine go_t ?_ | refine go_f ?_ | refine go_ptS ?_ | refine go_ptN ?_ | (apply go_glo; with_unfolding_all exact rfl) | (apply go_lenl; (first | assumption | exact List.getElem?_set_self (by first | assumption | omega) | exact List.getElem?_concat_length)) | (apply go_lenf; (first | assumption | exact List.getElem?_set_self (by first | assumption | omega) | exact List.getElem?_concat_length)) | (apply go_il; (first | assumption | exact List.getElem?_set_self (by first | assumption | omega) | exact List.getElem?_concat_length); with_unfolding_all exact rfl; with_unfolding_all exact rfl) | (apply go_it; with_unfolding_all exact rfl; with_unfolding_all exact rfl) | (apply go_set; (first | assumption | exact List.getElem?_set_self (by first | assumption | omega) | exact List.getElem?_concat_length); with_unfolding_all exact rfl) | (apply go_bt; with_unfolding_all exact rfl) | (apply go_bf; with_unfolding_all exact rfl) | refine And.intro (by with_unfolding_all exact rfl) ?_ | dsimp only [wipeE, List.set_cons_zero, List.set_cons_succ, set_0, set_s]))
    exact hq
  | cons p r =>
    have ne := joinL_ne (s := [10]) (parts := p :: r) (by simp) fun q hq => (hp q hq).1
    generalize hj : TL.joinL [10] (p :: r) = tx at ne hl
    repeat (with_reducible (first | refine go_Bnil ?_ | refine go_Bcons ?_ | refine go_asg ?_ | refine go_seti ?_ | refine go_exp ?_ | refine go_ret ?_ | refine go_if ?_ | refine go_var ?_ | refine go_con ?_ | refine go_bin ?_ | refine go_neg ?_ | refine go_cmp ?_ | refine go_chain ?_ | refine go_isN ?_ | refine go_and ?_ | refine go_or ?_ | refine go_not ?_ | refine go_call ?_ | refine go_pr ?_ | refine go_me ?_ | refine go_isi ?_ | refine go_idx ?_ | refine go_sli ?_ | refine go_abs0 ?_ | refine go_tup ?_ | refine go_lst ?_ | refine go_fstr ?_ | refine go_Tcmp ?_ | refine go_Tchain ?_ | refine go_TisN ?_ | refine go_Tand ?_ | refine go_Tor ?_ | refine go_Tnot ?_ | refine go_Ttv ?_ | refine go_nil ?_ | refine go_cons ?_ | refine go_Fnil ?_ | refine go_Fcons ?_ | refine go_comp ?_ | refine go_sq ?_ | refine go_enm ?_ | refine go_rng1 ?_ | refine go_for ?_ | refine go_v0 ?_ | refine go_vs ?_ | refine go_add ?_ | refine go_sub ?_ | refine go_int ?_ | refine go_intb ?_ | refine go_abs ?_ | refine go_lent ?_ | refine go_lt ?_ | refine go_le ?_ | refine go_gt ?_ | refine go_ge ?_ | refine go_eqi ?_ | refine go_nei ?_ | refine go_eqs ?_ | refine go_nes ?_ | refine go_tb ?_ | refine go_t ?_ | refine go_f ?_ | refine go_ptS ?_ | refine go_ptN ?_ | (apply go_glo; with_unfolding_all exact rfl) | (apply go_lenl; (first | assumption | exact List.getElem?_set_self (by first | assumption | omega) | exact List.getElem?_concat_length)) | (apply go_lenf; (first | assumption | exact List.getElem?_set_self (by first | assumption | omega) | exact List.getElem?_concat_length)) | (apply go_il; (first | assumption | exact List.getElem?_set_self (by first | assumption | omega) | exact List.getElem?_concat_length); with_unfolding_all exact rfl; with_unfolding_all exact rfl) | (apply go_it; with_unfolding_all exact rfl; with_unfolding_all exact rfl) | (apply go_set; (first | assumption | exact List.getElem?_set_self (by first | assumption | omega) | exact List.getElem?_concat_length); with_unfolding_all exact rfl) | (apply go_bt; with_unfolding_all exact rfl) | (apply go_bf; with_unfolding_all exact rfl) | refine And.intro (by with_unfolding_all exact rfl) ?_ | dsimp only [wipeE, List.set_cons_zero, List.set_cons_succ, set_0, set_s]))
    refine go_df ne ?_
    repeat (with_reducible (first | refine go_Bnil ?_ | refine go_Bcons ?_ | refine go_asg ?_ | refine go_seti ?_ | refine go_exp ?_ | refine go_ret ?_ | refine go_if ?_ | refine go_var ?_ | refine go_con ?_ | refine go_bin ?_ | refine go_neg ?_ | refine go_cmp ?_ | refine go_chain ?_ | refine go_isN ?_ | refine go_and ?_ | refine go_or ?_ | refine go_not ?_ | refine go_call ?_ | refine go_pr ?_ | refine go_me ?_ | refine go_isi ?_ | refine go_idx ?_ | refine go_sli ?_ | refine go_abs0 ?_ | refine go_tup ?_ | refine go_lst ?_ | refine go_fstr ?_ | refine go_Tcmp ?_ | refine go_Tchain ?_ | refine go_TisN ?_ | refine go_Tand ?_ | refine go_Tor ?_ | refine go_Tnot ?_ | refine go_Ttv ?_ | refine go_nil ?_ | refine go_cons ?_ | refine go_Fnil ?_ | refine go_Fcons ?_ | refine go_comp ?_ | refine go_sq ?_ | refine go_enm ?_ | refine go_rng1 ?_ | refine go_for ?_ | refine go_v0 ?_ | refine go_vs ?_ | refine go_add ?_ | refine go_sub ?_ | refine go_int ?_ | refine go_intb ?_ | refine go_abs ?_ | refine go_lent ?_ | refine go_lt ?_ | refine go_le ?_ | refine go_gt ?_ | refine go_ge ?_ | refine go_eqi ?_ | refine go_nei ?_ | refine go_eqs ?_ | refine go_nes ?_ | refine go_tb ?_ | refine go_t ?_ | refine go_f ?_ | refine go_ptS ?_ | refine go_ptN ?_ | (apply go_glo; with_unfolding_all exact rfl) | (apply go_lenl; (first | assumption | exact List.getElem?_set_self (by first | assumption | omega) | exact List.getElem?_concat_length)) | (apply go_lenf; (first | assumption | exact List.getElem?_set_self (by first | assumption | omega) | exact List.getElem?_concat_length)) | (apply go_il; (first | assumption | exact List.getElem?_set_self (by first | assumption | omega) | exact List.getElem?_concat_length); with_unfolding_all exact rfl; with_unfolding_all exact rfl) | (apply go_it; with_unfolding_all exact rfl; with_unfolding_all exact rfl) | (apply go_set; (first | assumption | exact List.getElem?_set_self (by first | assumption | omega) | exact List.getElem?_concat_length); with_unfolding_all exact rfl) | (apply go_bt; with_unfolding_all exact rfl) | (apply go_bf; with_unfolding_all exact rfl) | refine And.intro (by with_unfolding_all exact rfl) ?_ | dsimp only [wipeE, List.set_cons_zero, List.set_cons_succ, set_0, set_s]))
    subst hj
    refine go_split (by decide) (by simp) (fun q hq => (hp q hq).2) (Nat.le_trans (Nat.add_le_add_right hl 2) (by decide)) ?_
    repeat (with_reducible (first | refine go_Bnil ?_ | refine go_Bcons ?_ | refine go_asg ?_ | refine go_seti ?_ | refine go_exp ?_ | refine go_ret ?_ | refine go_if ?_ | refine go_var ?_ | refine go_con ?_ | refine go_bin ?_ | refine go_neg ?_ | refine go_cmp ?_ | refine go_chain ?_ | refine go_isN ?_ | refine go_and ?_ | refine go_or ?_ | refine go_not ?_ | refine go_call ?_ | refine go_pr ?_ | refine go_me ?_ | refine go_isi ?_ | refine go_idx ?_ | refine go_sli ?_ | refine go_abs0 ?_ | refine go_tup ?_ | refine go_lst ?_ | refine go_fstr ?_ | refine go_Tcmp ?_ | refine go_Tchain ?_ | refine go_TisN ?_ | refine go_Tand ?_ | refine go_Tor ?_ | refine go_Tnot ?_ | refine go_Ttv ?_ | refine go_nil ?_ | refine go_cons ?_ | refine go_Fnil ?_ | refine go_Fcons ?_ | refine go_comp ?_ | refine go_sq ?_ | refine go_enm ?_ | refine go_rng1 ?_ | refine go_for ?_ | refine go_v0 ?_ | refine go_vs ?_ | refine go_add ?_ | refine go_sub ?_ | refine go_int ?_ | refine go_intb ?_ | refine go_abs ?_ | refine go_lent ?_ | refine go_lt ?_ | refine go_le ?_ | refine go_gt ?_ | refine go_ge ?_ | refine go_eqi ?_ | refine go_nei ?_ | refine go_eqs ?_ | refine go_nes ?_ | refine go_tb ?_ | refine go_t ?_ | refine go_f ?_ | refine go_ptS ?_ | refine go_ptN ?_ | (apply go_glo; with_unfolding_all exact rfl) | (apply go_lenl; (first | assumption | exact List.getElem?_set_self (by first | assumption | omega) | exact List.getElem?_concat_length)) | (apply go_lenf; (first | assumption | exact List.getElem?_set_self (by first | assumption | omega) | exact List.getElem?_concat_length)) | (apply go_il; (first | assumption | exact List.getElem?_set_self (by first | assumption | omega) | exact List.getElem?_concat_length); with_unfolding_all exact rfl; with_unfolding_all exact rfl) | (apply go_it; with_unfolding_all exact rfl; with_unfolding_all exact rfl) | (apply go_set; (first | assumption | exact List.getElem?_set_self (by first | assumption | omega) | exact List.getElem?_concat_length); with_unfolding_all exact rfl) | (apply go_bt; with_unfolding_all exact rfl) | (apply go_bf; with_unfolding_all exact rfl) | refine And.intro (by with_unfolding_all exact rfl) ?_ | dsimp only [wipeE, List.set_cons_zero, List.set_cons_succ, set_0, set_s]))
    exact hq
end Y.K_k17
set_option linter.all false
set_option maxHeartbeats 4000000
set_option maxRecDepth 100000
namespace Y.K_k17
open Y PySem
inductive CallTx : D → List Nat → Prop
  | mk (x : List Nat) (n : Int) (hx : IsName x) (n0 : 0 ≤ n) (n1 : n < 9) : CallTx (.tup [.str x, .int n]) (ct x n)
theorem CallTx.call {d : D} {t : List Nat} (h : CallTx d t) : IsCall d := by
  cases h with
  | mk x n hx n0 n1 => exact ⟨x, n, rfl, hx, n0, n1⟩
theorem callwords' {k : Nat} {d : D} {t : List Nat} {st : Store} {Q : QE} {X : QX} (h : CallTx d t) (hq : Q (.str t) st) : Call T (k + 1) 4 [d] st Q X := by
  cases h with
  | mk x n hx n0 n1 => exact callwords hx n0 n1 hq
theorem rowtext {k r : Nat} {ps : List (D × List Nat)} {st : Store} {Q : QE} {X : QX} (e : st[r]? = some (.lst (ps.map (·.1)))) (hp : ∀ p ∈ ps, CallTx p.1 p.2) (hl : ps.length ≤ 1000) (hs : ((ps.map (·.2)).map List.length).sum + ps.length ≤ 1000000)
    (hq : Q (.str (TL.joinL [10] (ps.map (·.2)))) (st ++ [.lst (ps.map fun p => .str p.2)])) : Call T (k + 4) 6 [.ref r] st Q X := by
  have rl := (List.getElem?_eq_some_iff.mp e).1
  refine call_go f_row_text.fn rfl rfl ?_
  show wpB T (Call T (k + 3)) none b_row_text [some (.ref r), none, none, none] st _
  unfold b_row_text
  repeat (with_reducible (first | refine go_Bnil ?_ | refine go_Bcons ?_ | refine go_asg ?_ | refine go_seti ?_ | refine go_exp ?_ | refine go_ret ?_ | refine go_if ?_ | refine go_var ?_ | refine go_con ?_ | refine go_bin ?_ | refine go_neg ?_ | refine go_cmp ?_ | refine go_chain ?_ | refine go_isN ?_ | refine go_and ?_ | refine go_or ?_ | refine go_not ?_ | refine go_call ?_ | refine go_pr ?_ | refine go_me ?_ | refine go_isi ?_ | refine go_idx ?_ | refine go_sli ?_ | refine go_abs0 ?_ | refine go_tup ?_ | refine go_lst ?_ | refine go_fstr ?_ | refine go_Tcmp ?_ | refine go_Tchain ?_ | refine go_TisN ?_ | refine go_Tand ?_ | refine go_Tor ?_ | refine go_Tnot ?_ | refine go_Ttv ?_ | refine go_nil ?_ | refine go_cons ?_ | refine go_Fnil ?_ | refine go_Fcons ?_ | refine go_comp ?_ | refine go_sq ?_ | refine go_enm ?_ | refine go_rng1 ?_ | refine go_for ?_ | refine go_v0 ?_ | refine go_vs ?_ | refine go_add ?_ | refine go_sub ?_ | refine go_int ?_ | refine go_intb ?_ | refine go_abs ?_ | refine go_lent ?_ | refine go_lt ?_ | refine go_le ?_ | refine go_gt ?_ | refine go_ge ?_ | refine go_eqi ?_ | refine go_nei ?_ | refine go_eqs ?_ | refine go_nes ?_ | refine go_tb ?_ | refine go_t ?_ | refine go_f ?_ | refine go_ptS ?_ | refine go_ptN ?_ | (apply go_glo; with_unfolding_all exact rfl) | (apply go_lenl; (first | assumption | exact List.getElem?_set_self (by first | assumption | omega) | exact List.getElem?_concat_length)) | (apply go_lenf; (first | assumption | exact List.getElem?_set_self (by first | assumption | omega) | exact List.getElem?_concat_length)) | (apply go_il; (first | assumption | exact List.getElem?_set_self (by first | assumption | omega) | exact List.getElem?_concat_length); with_unfolding_all exact rfl; with_unfolding_all exact rfl) | (apply go_it; with_unfolding_all exact rfl; with_unfolding_all exact rfl) | (apply go_set; (first | assumption | exact List.getElem?_set_self (by first | assumption | omega) | exact List.getElem?_concat_length); with_unfolding_all exact rfl) | (apply go_bt; with_unfolding_all exact rfl) | (apply go_bf; with_unfolding_all exact rfl) | refine And.intro (by with_unfolding_all exact rfl) ?_ | dsimp only [wipeE, List.set_cons_zero, List.set_cons_succ, set_0, set_s]))
  refine ⟨(isi_l e).2, ?_⟩
  rw [(isi_l e).1]
  repeat (with_reducible (first | refine go_Bnil ?_ | refine go_Bcons ?_ | refine go_asg ?_ | refine go_seti ?_ | refine go_exp ?_ | refine go_ret ?_ | refine go_if ?_ | refine go_var ?_ | refine go_con ?_ | refine go_bin ?_ | refine go_neg ?_ | refine go_cmp ?_ | refine go_chain ?_ | refine go_isN ?_ | refine go_and ?_ | refine go_or ?_ | refine go_not ?_ | refine go_call ?_ | refine go_pr ?_ | refine go_me ?_ | refine go_isi ?_ | refine go_idx ?_ | refine go_sli ?_ | refine go_abs0 ?_ | refine go_tup ?_ | refine go_lst ?_ | refine go_fstr ?_ | refine go_Tcmp ?_ | refine go_Tchain ?_ | refine go_TisN ?_ | refine go_Tand ?_ | refine go_Tor ?_ | refine go_Tnot ?_ | refine go_Ttv ?_ | refine go_nil ?_ | refine go_cons ?_ | refine go_Fnil ?_ | refine go_Fcons ?_ | refine go_comp ?_ | refine go_sq ?_ | refine go_enm ?_ | refine go_rng1 ?_ | refine go_for ?_ | refine go_v0 ?_ | refine go_vs ?_ | refine go_add ?_ | refine go_sub ?_ | refine go_int ?_ | refine go_intb ?_ | refine go_abs ?_ | refine go_lent ?_ | refine go_lt ?_ | refine go_le ?_ | refine go_gt ?_ | refine go_ge ?_ | refine go_eqi ?_ | refine go_nei ?_ | refine go_eqs ?_ | refine go_nes ?_ | refine go_tb ?_ | refine go_t ?_ | refine go_f ?_ | refine go_ptS ?_ | refine go_ptN ?_ | (apply go_glo; with_unfolding_all exact rfl) | (apply go_lenl; (first | assumption | exact List.getElem?_set_self (by first | assumption | omega) | exact List.getElem?_concat_length)) | (apply go_lenf; (first | assumption | exact List.getElem?_set_self (by first | assumption | omega) | exact List.getElem?_concat_length)) | (apply go_il; (first | assumption | exact List.getElem?_set_self (by first | assumption | omega) | exact List.getElem?_concat_length); with_unfolding_all exact rfl; with_unfolding_all exact rfl) | (apply go_it; with_unfolding_all exact rfl; with_unfolding_all exact rfl) | (apply go_set; (first | assumption | exact List.getElem?_set_self (by first | assumption | omega) | exact List.getElem?_concat_length); with_unfolding_all exact rfl) | (apply go_bt; with_unfolding_all exact rfl) | (apply go_bf; with_unfolding_all exact rfl) | refine And.intro (by with_unfolding_all exact rfl) ?_ | dsimp only [wipeE, List.set_cons_zero, List.set_cons_succ, set_0, set_s]))
  have e2 : ∀ o : O, (st ++ [o])[r]? = some (.lst (ps.map (·.1))) := fun o => by rw [List.getElem?_append_left rl]; exact e
  refine enm_l (e2 _) ⟨ps.length + 1, for_j ps.length (fun i env s => s = st ++ [.lst ((ps.take i).map fun p => .str p.2)] ∧ ∃ o1 o2, env = [some (.ref r), some (.ref st.length), o1, o2]) (fun i env s N hi iv hN => ?_) (fun env s iv => ?_) _ 0 _ _ rfl ⟨rfl, _, _, rfl⟩⟩
  · obtain ⟨rfl, o1, o2, rfl⟩ := iv
    refine ⟨.tup [.int i, ps[i].1], _, ?_, rfl, ?_⟩
    · rw [at_enm (e2 _), List.getElem?_map, List.getElem?_eq_getElem hi]
      rfl
    · have tx := hp ps[i] (List.getElem_mem hi)
      repeat (with_reducible (first | refine go_Bnil ?_ | refine go_Bcons ?_ | refine go_asg ?_ | refine go_seti ?_ | refine go_exp ?_ | refine go_ret ?_ | refine go_if ?_ | refine go_var ?_ | refine go_con ?_ | refine go_bin ?_ | refine go_neg ?_ | refine go_cmp ?_ | refine go_chain ?_ | refine go_isN ?_ | refine go_and ?_ | refine go_or ?_ | refine go_not ?_ | refine go_call ?_ | refine go_pr ?_ | refine go_me ?_ | refine go_isi ?_ | refine go_idx ?_ | refine go_sli ?_ | refine go_abs0 ?_ | refine go_tup ?_ | refine go_lst ?_ | refine go_fstr ?_ | refine go_Tcmp ?_ | refine go_Tchain ?_ | refine go_TisN ?_ | refine go_Tand ?_ | refine go_Tor ?_ | refine go_Tnot ?_ | refine go_Ttv ?_ | refine go_nil ?_ | refine go_cons ?_ | refine go_Fnil ?_ | refine go_Fcons ?_ | refine go_comp ?_ | refine go_sq ?_ | refine go_enm ?_ | refine go_rng1 ?_ | refine go_for ?_ | refine go_v0 ?_ | refine go_vs ?_ | refine go_add ?_ | refine go_sub ?_ | refine go_int ?_ | refine go_intb ?_ | refine go_abs ?_ | refine go_lent ?_ | refine go_lt ?_ | refine go_le ?_ | refine go_gt ?_ | refine go_ge ?_ | refine go_eqi ?_ | refine go_nei ?_ | refine go_eqs ?_ | refine go_nes ?_ | refine go_tb ?_ | refine go_t ?_ | refine go_f ?_ | refine go_ptS ?_ | refine go_ptN ?_ | (apply go_glo; with_unfolding_all exact rfl) | (apply go_lenl; (first | assumption | exact List.getElem?_set_self (by first | assumption | omega) | exact List.getElem?_concat_length)) | (apply go_lenf; (first | assumption | exact List.getElem?_set_self (by first | assumption | omega) | exact List.getElem?_concat_length)) | (apply go_il; (first | assumption | exact List.getElem?_set_self (by first | assumption | omega) | exact List.getElem?_concat_length); with_unfolding_all exact rfl; with_unfolding_all exact rfl) | (apply go_it; with_unfolding_all exact rfl; with_unfolding_all exact rfl) | (apply go_set; (first | assumption | exact List.getElem?_set_self (by first | assumption | omega) | exact List.getElem?_concat_length); with_unfolding_all exact rfl) | (apply go_bt; with_unfolding_all exact rfl) | (apply go_bf; with_unfolding_all exact rfl) | refine And.intro (by with_unfolding_all exact rfl) ?_ | dsimp only [wipeE, List.set_cons_zero, List.set_cons_succ, set_0, set_s]))
      refine callform tx.call ?_
      repeat (with_reducible (first | refine go_Bnil ?_ | refine go_Bcons ?_ | refine go_asg ?_ | refine go_seti ?_ | refine go_exp ?_ | refine go_ret ?_ | refine go_if ?_ | refine go_var ?_ | refine go_con ?_ | refine go_bin ?_ | refine go_neg ?_ | refine go_cmp ?_ | refine go_chain ?_ | refine go_isN ?_ | refine go_and ?_ | refine go_or ?_ | refine go_not ?_ | refine go_call ?_ | refine go_pr ?_ | refine go_me ?_ | refine go_isi ?_ | refine go_idx ?_ | refine go_sli ?_ | refine go_abs0 ?_ | refine go_tup ?_ | refine go_lst ?_ | refine go_fstr ?_ | refine go_Tcmp ?_ | refine go_Tchain ?_ | refine go_TisN ?_ | refine go_Tand ?_ | refine go_Tor ?_ | refine go_Tnot ?_ | refine go_Ttv ?_ | refine go_nil ?_ | refine go_cons ?_ | refine go_Fnil ?_ | refine go_Fcons ?_ | refine go_comp ?_ | refine go_sq ?_ | refine go_enm ?_ | refine go_rng1 ?_ | refine go_for ?_ | refine go_v0 ?_ | refine go_vs ?_ | refine go_add ?_ | refine go_sub ?_ | refine go_int ?_ | refine go_intb ?_ | refine go_abs ?_ | refine go_lent ?_ | refine go_lt ?_ | refine go_le ?_ | refine go_gt ?_ | refine go_ge ?_ | refine go_eqi ?_ | refine go_nei ?_ | refine go_eqs ?_ | refine go_nes ?_ | refine go_tb ?_ | refine go_t ?_ | refine go_f ?_ | refine go_ptS ?_ | refine go_ptN ?_ | (apply go_glo; with_unfolding_all exact rfl) | (apply go_lenl; (first | assumption | exact List.getElem?_set_self (by first | assumption | omega) | exact List.getElem?_concat_length)) | (apply go_lenf; (first | assumption | exact List.getElem?_set_self (by first | assumption | omega) | exact List.getElem?_concat_length)) | (apply go_il; (first | assumption | exact List.getElem?_set_self (by first | assumption | omega) | exact List.getElem?_concat_length); with_unfolding_all exact rfl; with_unfolding_all exact rfl) | (apply go_it; with_unfolding_all exact rfl; with_unfolding_all exact rfl) | (apply go_set; (first | assumption | exact List.getElem?_set_self (by first | assumption | omega) | exact List.getElem?_concat_length); with_unfolding_all exact rfl) | (apply go_bt; with_unfolding_all exact rfl) | (apply go_bf; with_unfolding_all exact rfl) | refine And.intro (by with_unfolding_all exact rfl) ?_ | dsimp only [wipeE, List.set_cons_zero, List.set_cons_succ, set_0, set_s]))
      refine ⟨meOk_l List.getElem?_concat_length rfl, ?_⟩
      repeat (with_reducible (first | refine go_Bnil ?_ | refine go_Bcons ?_ | refine go_asg ?_ | refine go_seti ?_ | refine go_exp ?_ | refine go_ret ?_ | refine go_if ?_ | refine go_var ?_ | refine go_con ?_ | refine go_bin ?_ | refine go_neg ?_ | refine go_cmp ?_ | refine go_chain ?_ | refine go_isN ?_ | refine go_and ?_ | refine go_or ?_ | refine go_not ?_ | refine go_call ?_ | refine go_pr ?_ | refine go_me ?_ | refine go_isi ?_ | refine go_idx ?_ | refine go_sli ?_ | refine go_abs0 ?_ | refine go_tup ?_ | refine go_lst ?_ | refine go_fstr ?_ | refine go_Tcmp ?_ | refine go_Tchain ?_ | refine go_TisN ?_ | refine go_Tand ?_ | refine go_Tor ?_ | refine go_Tnot ?_ | refine go_Ttv ?_ | refine go_nil ?_ | refine go_cons ?_ | refine go_Fnil ?_ | refine go_Fcons ?_ | refine go_comp ?_ | refine go_sq ?_ | refine go_enm ?_ | refine go_rng1 ?_ | refine go_for ?_ | refine go_v0 ?_ | refine go_vs ?_ | refine go_add ?_ | refine go_sub ?_ | refine go_int ?_ | refine go_intb ?_ | refine go_abs ?_ | refine go_lent ?_ | refine go_lt ?_ | refine go_le ?_ | refine go_gt ?_ | refine go_ge ?_ | refine go_eqi ?_ | refine go_nei ?_ | refine go_eqs ?_ | refine go_nes ?_ | refine go_tb ?_ | refine go_t ?_ | refine go_f ?_ | refine go_ptS ?_ | refine go_ptN ?_ | (apply go_glo; with_unfolding_all exact rfl) | (apply go_lenl; (first | assumption | exact List.getElem?_set_self (by first | assumption | omega) | exact List.getElem?_concat_length)) | (apply go_lenf; (first | assumption | exact List.getElem?_set_self (by first | assumption | omega) | exact List.getElem?_concat_length)) | (apply go_il; (first | assumption | exact List.getElem?_set_self (by first | assumption | omega) | exact List.getElem?_concat_length); with_unfolding_all exact rfl; with_unfolding_all exact rfl) | (apply go_it; with_unfolding_all exact rfl; with_unfolding_all exact rfl) | (apply go_set; (first | assumption | exact List.getElem?_set_self (by first | assumption | omega) | exact List.getElem?_concat_length); with_unfolding_all exact rfl) | (apply go_bt; with_unfolding_all exact rfl) | (apply go_bf; with_unfolding_all exact rfl) | refine And.intro (by with_unfolding_all exact rfl) ?_ | dsimp only [wipeE, List.set_cons_zero, List.set_cons_succ, set_0, set_s]))
      refine callwords' tx ?_
      repeat (with_reducible (first | refine go_Bnil ?_ | refine go_Bcons ?_ | refine go_asg ?_ | refine go_seti ?_ | refine go_exp ?_ | refine go_ret ?_ | refine go_if ?_ | refine go_var ?_ | refine go_con ?_ | refine go_bin ?_ | refine go_neg ?_ | refine go_cmp ?_ | refine go_chain ?_ | refine go_isN ?_ | refine go_and ?_ | refine go_or ?_ | refine go_not ?_ | refine go_call ?_ | refine go_pr ?_ | refine go_me ?_ | refine go_isi ?_ | refine go_idx ?_ | refine go_sli ?_ | refine go_abs0 ?_ | refine go_tup ?_ | refine go_lst ?_ | refine go_fstr ?_ | refine go_Tcmp ?_ | refine go_Tchain ?_ | refine go_TisN ?_ | refine go_Tand ?_ | refine go_Tor ?_ | refine go_Tnot ?_ | refine go_Ttv ?_ | refine go_nil ?_ | refine go_cons ?_ | refine go_Fnil ?_ | refine go_Fcons ?_ | refine go_comp ?_ | refine go_sq ?_ | refine go_enm ?_ | refine go_rng1 ?_ | refine go_for ?_ | refine go_v0 ?_ | refine go_vs ?_ | refine go_add ?_ | refine go_sub ?_ | refine go_int ?_ | refine go_intb ?_ | refine go_abs ?_ | refine go_lent ?_ | refine go_lt ?_ | refine go_le ?_ | refine go_gt ?_ | refine go_ge ?_ | refine go_eqi ?_ | refine go_nei ?_ | refine go_eqs ?_ | refine go_nes ?_ | refine go_tb ?_ | refine go_t ?_ | refine go_f ?_ | refine go_ptS ?_ | refine go_ptN ?_ | (apply go_glo; with_unfolding_all exact rfl) | (apply go_lenl; (first | assumption | exact List.getElem?_set_self (by first | assumption | omega) | exact List.getElem?_concat_length)) | (apply go_lenf; (first | assumption | exact List.getElem?_set_self (by first | assumption | omega) | exact List.getElem?_concat_length)) | (apply go_il; (first | assumption | exact List.getElem?_set_self (by first | assumption | omega) | exact List.getElem?_concat_length); with_unfolding_all exact rfl; with_unfolding_all exact rfl) | (apply go_it; with_unfolding_all exact rfl; with_unfolding_all exact rfl) | (apply go_set; (first | assumption | exact List.getElem?_set_self (by first | assumption | omega) | exact List.getElem?_concat_length); with_unfolding_all exact rfl) | (apply go_bt; with_unfolding_all exact rfl) | (apply go_bf; with_unfolding_all exact rfl) | refine And.intro (by with_unfolding_all exact rfl) ?_ | dsimp only [wipeE, List.set_cons_zero, List.set_cons_succ, set_0, set_s]))
      refine go_app List.getElem?_concat_length (Nat.lt_of_le_of_lt (show _ ≤ 1000 by simp; omega) (by decide)) ?_
      repeat (with_reducible (first | refine go_Bnil ?_ | refine go_Bcons ?_ | refine go_asg ?_ | refine go_seti ?_ | refine go_exp ?_ | refine go_ret ?_ | refine go_if ?_ | refine go_var ?_ | refine go_con ?_ | refine go_bin ?_ | refine go_neg ?_ | refine go_cmp ?_ | refine go_chain ?_ | refine go_isN ?_ | refine go_and ?_ | refine go_or ?_ | refine go_not ?_ | refine go_call ?_ | refine go_pr ?_ | refine go_me ?_ | refine go_isi ?_ | refine go_idx ?_ | refine go_sli ?_ | refine go_abs0 ?_ | refine go_tup ?_ | refine go_lst ?_ | refine go_fstr ?_ | refine go_Tcmp ?_ | refine go_Tchain ?_ | refine go_TisN ?_ | refine go_Tand ?_ | refine go_Tor ?_ | refine go_Tnot ?_ | refine go_Ttv ?_ | refine go_nil ?_ | refine go_cons ?_ | refine go_Fnil ?_ | refine go_Fcons ?_ | refine go_comp ?_ | refine go_sq ?_ | refine go_enm ?_ | refine go_rng1 ?_ | refine go_for ?_ | refine go_v0 ?_ | refine go_vs ?_ | refine go_add ?_ | refine go_sub ?_ | refine go_int ?_ | refine go_intb ?_ | refine go_abs ?_ | refine go_lent ?_ | refine go_lt ?_ | refine go_le ?_ | refine go_gt ?_ | refine go_ge ?_ | refine go_eqi ?_ | refine go_nei ?_ | refine go_eqs ?_ | refine go_nes ?_ | refine go_tb ?_ | refine go_t ?_ | refine go_f ?_ | refine go_ptS ?_ | refine go_ptN ?_ | (apply go_glo; with_unfolding_all exact rfl) | (apply go_lenl; (first | assumption | exact List.getElem?_set_self (by first | assumption | omega) | exact List.getElem?_concat_length)) | (apply go_lenf; (first | assumption | exact List.getElem?_set_self (by first | assumption | omega) | exact List.getElem?_concat_length)) | (apply go_il; (first | assumption | exact List.getElem?_set_self (by first | assumption | omega) | exact List.getElem?_concat_length); with_unfolding_all exact rfl; with_unfolding_all exact rfl) | (apply go_it; with_unfolding_all exact rfl; with_unfolding_all exact rfl) | (apply go_set; (first | assumption | exact List.getElem?_set_self (by first | assumption | omega) | exact List.getElem?_concat_length); with_unfolding_all exact rfl) | (apply go_bt; with_unfolding_all exact rfl) | (apply go_bf; with_unfolding_all exact rfl) | refine And.intro (by with_unfolding_all exact rfl) ?_ | dsimp only [wipeE, List.set_cons_zero, List.set_cons_succ, set_0, set_s]))
      refine hN _ _ ⟨?_, _, _, rfl⟩
      rw [set_last, List.take_succ_eq_append_getElem hi, List.map_append]
      rfl
  · obtain ⟨rfl, o1, o2, rfl⟩ := iv
    rw [List.take_length]
    refine ⟨?_, ?_⟩
    · rw [at_enm (e2 _), List.getElem?_eq_none (by simp)]
      rfl
    · repeat (with_reducible (first | refine go_Bnil ?_ | refine go_Bcons ?_ | refine go_asg ?_ | refine go_seti ?_ | refine go_exp ?_ | refine go_ret ?_ | refine go_if ?_ | refine go_var ?_ | refine go_con ?_ | refine go_bin ?_ | refine go_neg ?_ | refine go_cmp ?_ | refine go_chain ?_ | refine go_isN ?_ | refine go_and ?_ | refine go_or ?_ | refine go_not ?_ | refine go_call ?_ | refine go_pr ?_ | refine go_me ?_ | refine go_isi ?_ | refine go_idx ?_ | refine go_sli ?_ | refine go_abs0 ?_ | refine go_tup ?_ | refine go_lst ?_ | refine go_fstr ?_ | refine go_Tcmp ?_ | refine go_Tchain ?_ | refine go_TisN ?_ | refine go_Tand ?_ | refine go_Tor ?_ | refine go_Tnot ?_ | refine go_Ttv ?_ | refine go_nil ?_ | refine go_cons ?_ | refine go_Fnil ?_ | refine go_Fcons ?_ | refine go_comp ?_ | refine go_sq ?_ | refine go_enm ?_ | refine go_rng1 ?_ | refine go_for ?_ | refine go_v0 ?_ | refine go_vs ?_ | refine go_add ?_ | refine go_sub ?_ | refine go_int ?_ | refine go_intb ?_ | refine go_abs ?_ | refine go_lent ?_ | refine go_lt ?_ | refine go_le ?_ | refine go_gt ?_ | refine go_ge ?_ | refine go_eqi ?_ | refine go_nei ?_ | refine go_eqs ?_ | refine go_nes ?_ | refine go_tb ?_ | refine go_t ?_ | refine go_f ?_ | refine go_ptS ?_ | refine go_ptN ?_ | (apply go_glo; with_unfolding_all exact rfl) | (apply go_lenl; (first | assumption | exact List.getElem?_set_self (by first | assumption | omega) | exact List.getElem?_concat_length)) | (apply go_lenf; (first | assumption | exact List.getElem?_set_self (by first | assumption | omega) | exact List.getElem?_concat_length)) | (apply go_il; (first | assumption | exact List.getElem?_set_self (by first | assumption | omega) | exact List.getElem?_concat_length); with_unfolding_all exact rfl; with_unfolding_all exact rfl) | (apply go_it; with_unfolding_all exact rfl; with_unfolding_all exact rfl) | (apply go_set; (first | assumption | exact List.getElem?_set_self (by first | assumption | omega) | exact List.getElem?_concat_length); with_unfolding_all exact rfl) | (apply go_bt; with_unfolding_all exact rfl) | (apply go_bf; with_unfolding_all exact rfl) | refine And.intro (by with_unfolding_all exact rfl) ?_ | dsimp only [wipeE, List.set_cons_zero, List.set_cons_succ, set_0, set_s]))
      refine go_join (ys := ps.map (·.2)) ?_ ?_ ?_
      · unfold seqOf
        dsimp only
        rw [List.getElem?_concat_length, List.map_map]
        rfl
      · simp only [List.length_map, List.length_cons, List.length_nil]
        omega
      · exact hq
end Y.K_k17
set_option linter.all false
set_option maxHeartbeats 4000000
set_option maxRecDepth 100000
namespace Y.K_k17
open Y PySem
theorem no32 {x : List Nat} (h : IsName x) : 32 ∉ x := fun m => absurd (h.az 32 m) (by decide)
theorem no10 {x : List Nat} (h : IsName x) : 10 ∉ x := fun m => absurd (h.az 10 m) (by decide)
theorem no32d {n : Int} : 32 ∉ dg n := by
  unfold dg
  simp
  omega
theorem no10d {n : Int} : 10 ∉ dg n := by
  unfold dg
  simp
  omega
theorem ct_join (x : List Nat) (n : Int) : ct x n = TL.joinL [32] [x, dg n] := by
  unfold ct
  show x ++ [32] ++ dg n = x ++ ([32] ++ dg n)
  rw [List.append_assoc]
theorem CallTx.fits {d : D} {t : List Nat} (h : CallTx d t) : t ≠ [] ∧ 10 ∉ t ∧ isNon d = false ∧ t.length ≤ 20 := by
  cases h with
  | mk x n hx n0 n1 =>
    refine ⟨fun e => by simp [ct] at e, fun m => ?_, rfl, by have := ct_len (n := n) hx; omega⟩
    unfold ct at m
    simp only [List.mem_append, List.mem_singleton] at m
    rcases m with (m | m) | m
    · exact no10 hx m
    · cases m
    · exact no10d m
theorem splitcall {k : Nat} {d : D} {t : List Nat} {st : Store} {Q : QE} {X : QX} (h : CallTx d t) (hq : ∀ rest, Q d (st ++ rest)) : meQ .split (.str t) [.str [32]] st fun v s => Call T (k + 2) 5 [v] s Q X := by
  cases h with
  | mk x n hx n0 n1 =>
    have b : (ct x n).length + 2 ≤ line := big (by have := ct_len (n := n) hx; omega)
    rw [ct_join] at b ⊢
    refine go_split (by decide) (by simp) (fun p hp => ?_) b ?_
    · rcases List.mem_cons.mp hp with z | z
      · rw [z]; exact no32 hx
      · rw [List.mem_singleton.mp z]; exact no32d
    · exact callof List.getElem?_concat_length hx n0 n1 (hq _)
theorem get_1 {st : Store} {a b : O} {rest : Store} : (st ++ [a] ++ [b] ++ rest)[st.length]? = some a := by simp
theorem get_2 {st : Store} {a b : O} {rest : Store} : (st ++ [a] ++ [b] ++ rest)[st.length + 1]? = some b := by simp
theorem set_1 {st : Store} {a b c : O} {rest : Store} : (st ++ [a] ++ [b] ++ rest).set st.length c = st ++ [c] ++ [b] ++ rest := by simp
theorem readrow {k : Nat} {ps : List (D × List Nat)} {tx : List Nat} {st : Store} {Q : QE} {X : QX} (htx : tx = TL.joinL [10] (ps.map Prod.snd)) (hp : ∀ p ∈ ps, CallTx p.1 p.2) (hl : ps.length ≤ 1000) (hs : tx.length ≤ 1000000)
    (hq : ∀ rest, Q (D.ref st.length) (st ++ [.lst (ps.map Prod.fst)] ++ rest)) : Call T (k + 4) 8 [.str tx] st Q X := by
  refine call_z f_read_row.fn rfl rfl ?_
  show wpB T (Call T (k + 3)) none b_read_row [some (.str tx), none, none, none, none] st _
  unfold b_read_row
  simp (implicitDefEqProofs := false) (dsimp := false) (failIfUnchanged := false) only [lz1, z_ifT, z_ifF, ks_nx, ks_rt, ks_bk, ks_ct, ks_xc, kl_nx, kl_rt, kl_bk, kl_ct, kl_xc, kc_nx, kc_rt, kc_xc, kt_nx, kt_rt, kt_bk, kt_ct, kt_xc, kh_nx, kh_rt, un_n, un_s, isNon_1, isNon_2, isNon_3, isNon_4, isNon_5, isNon_6, isNon_7, boolQ_1, intQ_1, optQ_1, lstQ_1, sqQ_1, sqQ_2, insQ_1, getIx_0, getIx_1, getIx_2, getIx_3, getIx_4, getIx_5, setIx_0, setIx_1, setIx_2, bindQ_nm, bindL_0, bindL_1, bindQ_tp, z_var, z_con, z_glo, z_bin, z_neg, z_cmp, z_chain, z_isN, z_notN, z_and, z_or, z_not, z_ife, z_call, z_make, methQ_1, z_meth, z_fld, z_pr, z_me, z_isi, z_idx, z_sli, z_abs0, z_tup, z_lst, z_fstr, z_efld, z_eisi, z_comp, z_Tcmp, z_Tchain, z_TisN, z_TnotN, z_Tand, z_Tor, z_Tnot, z_Ttv, z_nil, z_cons, z_Fnil, z_Fcons, z_Tsn, z_Ts1, z_rng1, int2Q_1, z_rng2, z_enm, z_zip, z_sq, z_Bnil, z_Bcons, z_asg, z_asgt, z_asg2, z_setf, z_seti, augQ_1, augQ_2, z_augn, z_augf, z_exp, z_ret, z_retN, z_if, z_for, z_whl, z_brk, z_cnt, z_pas, z_rais0, z_rais1, z_try, z_Hnil, z_Hcons, v_v0, v_vs, v_add, v_sub, v_mul, v_fdiv, v_mod, v_pow, v_sadd, v_tadd, v_ladd, v_lmul, v_int, v_intb, v_abs, v_max2, v_min2, v_stri, v_lens, v_lent, v_lenr, v_tupt, v_tupr, v_lstt, v_lstr, v_any, v_all, v_ixt, v_ixr, v_seti, v_pts, v_ptn, v_sls, v_slt, v_slr, v_fld, v_setf, v_okl, v_oks, v_app, v_pop, v_lt, v_le, v_gt, v_ge, v_eq, v_ne, v_in, v_ni, v_eqii, v_eqss, v_eqbb, v_eqsi, v_eqis, v_eqni, v_eqin, v_eqns, v_eqsn, v_trn, v_trb, v_tri, v_trt, v_trr, v_trs, v_fms, v_fmi, v_inp, v_inl, v_ins, t_n, t_b, t_i, t_s, t_t, t_r, tyO_1, tyO_2, tyO_3, tyO_4, y_n, y_b, y_i, y_s, y_t, y_l, y_d, y_o, y_o1, y_o2, y_o3, y_o4, y_o5, y_o6, w_t, w_s, w_r, w_e, w_zt, List.map_cons, List.map_nil, List.replicate_succ, List.replicate_zero, List.cons_append, List.nil_append, List.append_nil, List.set_cons_zero, List.set_cons_succ, List.any_cons, List.any_nil, List.lookup_cons_self, meT, reduceCtorEq, decide_true, decide_false, Bool.or_false, Bool.false_or, Bool.or_true, Bool.true_or, Bool.not_true, Bool.not_false, Bool.and_true, Bool.true_and, Bool.and_false, Bool.false_and, true_and, and_true, wipeE, List.getElem?_concat_length]
  have hs' := hs
  rw [htx] at hs'
  have lo := linesof (k := k + 2) (st := st ++ [.lst []]) (Q := lz (fun x s1 => True) .mk) (X := X) (parts := ps.map Prod.snd) (fun p m => by
    obtain ⟨q, hq', rfl⟩ := List.mem_map.mp m
    exact ⟨(hp q hq').fits.1, (hp q hq').fits.2.1⟩) hs' trivial
  clear lo
  rw [htx]
  refine linesof (fun p m => by
    obtain ⟨q, hq', rfl⟩ := List.mem_map.mp m
    exact ⟨(hp q hq').fits.1, (hp q hq').fits.2.1⟩) hs' ?_
  rw [← htx]
  simp (implicitDefEqProofs := false) (dsimp := false) (failIfUnchanged := false) only [lz1, z_ifT, z_ifF, ks_nx, ks_rt, ks_bk, ks_ct, ks_xc, kl_nx, kl_rt, kl_bk, kl_ct, kl_xc, kc_nx, kc_rt, kc_xc, kt_nx, kt_rt, kt_bk, kt_ct, kt_xc, kh_nx, kh_rt, un_n, un_s, isNon_1, isNon_2, isNon_3, isNon_4, isNon_5, isNon_6, isNon_7, boolQ_1, intQ_1, optQ_1, lstQ_1, sqQ_1, sqQ_2, insQ_1, getIx_0, getIx_1, getIx_2, getIx_3, getIx_4, getIx_5, setIx_0, setIx_1, setIx_2, bindQ_nm, bindL_0, bindL_1, bindQ_tp, z_var, z_con, z_glo, z_bin, z_neg, z_cmp, z_chain, z_isN, z_notN, z_and, z_or, z_not, z_ife, z_call, z_make, methQ_1, z_meth, z_fld, z_pr, z_me, z_isi, z_idx, z_sli, z_abs0, z_tup, z_lst, z_fstr, z_efld, z_eisi, z_comp, z_Tcmp, z_Tchain, z_TisN, z_TnotN, z_Tand, z_Tor, z_Tnot, z_Ttv, z_nil, z_cons, z_Fnil, z_Fcons, z_Tsn, z_Ts1, z_rng1, int2Q_1, z_rng2, z_enm, z_zip, z_sq, z_Bnil, z_Bcons, z_asg, z_asgt, z_asg2, z_setf, z_seti, augQ_1, augQ_2, z_augn, z_augf, z_exp, z_ret, z_retN, z_if, z_for, z_whl, z_brk, z_cnt, z_pas, z_rais0, z_rais1, z_try, z_Hnil, z_Hcons, v_v0, v_vs, v_add, v_sub, v_mul, v_fdiv, v_mod, v_pow, v_sadd, v_tadd, v_ladd, v_lmul, v_int, v_intb, v_abs, v_max2, v_min2, v_stri, v_lens, v_lent, v_lenr, v_tupt, v_tupr, v_lstt, v_lstr, v_any, v_all, v_ixt, v_ixr, v_seti, v_pts, v_ptn, v_sls, v_slt, v_slr, v_fld, v_setf, v_okl, v_oks, v_app, v_pop, v_lt, v_le, v_gt, v_ge, v_eq, v_ne, v_in, v_ni, v_eqii, v_eqss, v_eqbb, v_eqsi, v_eqis, v_eqni, v_eqin, v_eqns, v_eqsn, v_trn, v_trb, v_tri, v_trt, v_trr, v_trs, v_fms, v_fmi, v_inp, v_inl, v_ins, t_n, t_b, t_i, t_s, t_t, t_r, tyO_1, tyO_2, tyO_3, tyO_4, y_n, y_b, y_i, y_s, y_t, y_l, y_d, y_o, y_o1, y_o2, y_o3, y_o4, y_o5, y_o6, w_t, w_s, w_r, w_e, w_zt, List.map_cons, List.map_nil, List.replicate_succ, List.replicate_zero, List.cons_append, List.nil_append, List.append_nil, List.set_cons_zero, List.set_cons_succ, List.any_cons, List.any_nil, List.lookup_cons_self, meT, reduceCtorEq, decide_true, decide_false, Bool.or_false, Bool.false_or, Bool.or_true, Bool.true_or, Bool.not_true, Bool.not_false, Bool.and_true, Bool.true_and, Bool.and_false, Bool.false_and, true_and, and_true, wipeE, List.getElem?_concat_length]
  refine for_e (ds := (ps.map Prod.snd).map D.str) (fun i r env s => ∃ done qs rest o1 o2 o3, ps = done ++ qs ∧ r = (qs.map Prod.snd).map D.str ∧ s = st ++ [.lst (done.map Prod.fst)] ++ [.lst ((ps.map Prod.snd).map D.str)] ++ rest ∧ env = [some (.str tx), some (.ref st.length), o1, o2, o3]) ⟨[], ps, [], none, none, none, rfl, rfl, by simp, rfl⟩ (fun i r env s ⟨done, qs, rest, o1, o2, o3, h1, h2, h3, h4⟩ => ?_) (fun i d r env s N hd ⟨done, qs, rest, o1, o2, o3, h1, h2, h3, h4⟩ hN => ?_) (fun env s ⟨done, qs, rest, o1, o2, o3, h1, h2, h3, h4⟩ => ?_)
  · subst h3
    rw [show (st ++ [O.lst []]).length = st.length + 1 by simp, get_2]
    rfl
  · subst h3 h4
    cases qs with
    | nil => cases h2
    | cons q qs =>
      cases h2
      have tq := hp q (by rw [h1]; simp)
      simp (implicitDefEqProofs := false) (dsimp := false) (failIfUnchanged := false) only [lz1, z_ifT, z_ifF, ks_nx, ks_rt, ks_bk, ks_ct, ks_xc, kl_nx, kl_rt, kl_bk, kl_ct, kl_xc, kc_nx, kc_rt, kc_xc, kt_nx, kt_rt, kt_bk, kt_ct, kt_xc, kh_nx, kh_rt, un_n, un_s, isNon_1, isNon_2, isNon_3, isNon_4, isNon_5, isNon_6, isNon_7, boolQ_1, intQ_1, optQ_1, lstQ_1, sqQ_1, sqQ_2, insQ_1, getIx_0, getIx_1, getIx_2, getIx_3, getIx_4, getIx_5, setIx_0, setIx_1, setIx_2, bindQ_nm, bindL_0, bindL_1, bindQ_tp, z_var, z_con, z_glo, z_bin, z_neg, z_cmp, z_chain, z_isN, z_notN, z_and, z_or, z_not, z_ife, z_call, z_make, methQ_1, z_meth, z_fld, z_pr, z_me, z_isi, z_idx, z_sli, z_abs0, z_tup, z_lst, z_fstr, z_efld, z_eisi, z_comp, z_Tcmp, z_Tchain, z_TisN, z_TnotN, z_Tand, z_Tor, z_Tnot, z_Ttv, z_nil, z_cons, z_Fnil, z_Fcons, z_Tsn, z_Ts1, z_rng1, int2Q_1, z_rng2, z_enm, z_zip, z_sq, z_Bnil, z_Bcons, z_asg, z_asgt, z_asg2, z_setf, z_seti, augQ_1, augQ_2, z_augn, z_augf, z_exp, z_ret, z_retN, z_if, z_for, z_whl, z_brk, z_cnt, z_pas, z_rais0, z_rais1, z_try, z_Hnil, z_Hcons, v_v0, v_vs, v_add, v_sub, v_mul, v_fdiv, v_mod, v_pow, v_sadd, v_tadd, v_ladd, v_lmul, v_int, v_intb, v_abs, v_max2, v_min2, v_stri, v_lens, v_lent, v_lenr, v_tupt, v_tupr, v_lstt, v_lstr, v_any, v_all, v_ixt, v_ixr, v_seti, v_pts, v_ptn, v_sls, v_slt, v_slr, v_fld, v_setf, v_okl, v_oks, v_app, v_pop, v_lt, v_le, v_gt, v_ge, v_eq, v_ne, v_in, v_ni, v_eqii, v_eqss, v_eqbb, v_eqsi, v_eqis, v_eqni, v_eqin, v_eqns, v_eqsn, v_trn, v_trb, v_tri, v_trt, v_trr, v_trs, v_fms, v_fmi, v_inp, v_inl, v_ins, t_n, t_b, t_i, t_s, t_t, t_r, tyO_1, tyO_2, tyO_3, tyO_4, y_n, y_b, y_i, y_s, y_t, y_l, y_d, y_o, y_o1, y_o2, y_o3, y_o4, y_o5, y_o6, w_t, w_s, w_r, w_e, w_zt, List.map_cons, List.map_nil, List.replicate_succ, List.replicate_zero, List.cons_append, List.nil_append, List.append_nil, List.set_cons_zero, List.set_cons_succ, List.any_cons, List.any_nil, List.lookup_cons_self, meT, reduceCtorEq, decide_true, decide_false, Bool.or_false, Bool.false_or, Bool.or_true, Bool.true_or, Bool.not_true, Bool.not_false, Bool.and_true, Bool.true_and, Bool.and_false, Bool.false_and, true_and, and_true, wipeE, List.getElem?_concat_length]
      refine splitcall tq fun s2 => ?_
      simp (implicitDefEqProofs := false) (dsimp := false) (failIfUnchanged := false) only [lz1, z_ifT, z_ifF, ks_nx, ks_rt, ks_bk, ks_ct, ks_xc, kl_nx, kl_rt, kl_bk, kl_ct, kl_xc, kc_nx, kc_rt, kc_xc, kt_nx, kt_rt, kt_bk, kt_ct, kt_xc, kh_nx, kh_rt, un_n, un_s, isNon_1, isNon_2, isNon_3, isNon_4, isNon_5, isNon_6, isNon_7, boolQ_1, intQ_1, optQ_1, lstQ_1, sqQ_1, sqQ_2, insQ_1, getIx_0, getIx_1, getIx_2, getIx_3, getIx_4, getIx_5, setIx_0, setIx_1, setIx_2, bindQ_nm, bindL_0, bindL_1, bindQ_tp, z_var, z_con, z_glo, z_bin, z_neg, z_cmp, z_chain, z_isN, z_notN, z_and, z_or, z_not, z_ife, z_call, z_make, methQ_1, z_meth, z_fld, z_pr, z_me, z_isi, z_idx, z_sli, z_abs0, z_tup, z_lst, z_fstr, z_efld, z_eisi, z_comp, z_Tcmp, z_Tchain, z_TisN, z_TnotN, z_Tand, z_Tor, z_Tnot, z_Ttv, z_nil, z_cons, z_Fnil, z_Fcons, z_Tsn, z_Ts1, z_rng1, int2Q_1, z_rng2, z_enm, z_zip, z_sq, z_Bnil, z_Bcons, z_asg, z_asgt, z_asg2, z_setf, z_seti, augQ_1, augQ_2, z_augn, z_augf, z_exp, z_ret, z_retN, z_if, z_for, z_whl, z_brk, z_cnt, z_pas, z_rais0, z_rais1, z_try, z_Hnil, z_Hcons, v_v0, v_vs, v_add, v_sub, v_mul, v_fdiv, v_mod, v_pow, v_sadd, v_tadd, v_ladd, v_lmul, v_int, v_intb, v_abs, v_max2, v_min2, v_stri, v_lens, v_lent, v_lenr, v_tupt, v_tupr, v_lstt, v_lstr, v_any, v_all, v_ixt, v_ixr, v_seti, v_pts, v_ptn, v_sls, v_slt, v_slr, v_fld, v_setf, v_okl, v_oks, v_app, v_pop, v_lt, v_le, v_gt, v_ge, v_eq, v_ne, v_in, v_ni, v_eqii, v_eqss, v_eqbb, v_eqsi, v_eqis, v_eqni, v_eqin, v_eqns, v_eqsn, v_trn, v_trb, v_tri, v_trt, v_trr, v_trs, v_fms, v_fmi, v_inp, v_inl, v_ins, t_n, t_b, t_i, t_s, t_t, t_r, tyO_1, tyO_2, tyO_3, tyO_4, y_n, y_b, y_i, y_s, y_t, y_l, y_d, y_o, y_o1, y_o2, y_o3, y_o4, y_o5, y_o6, w_t, w_s, w_r, w_e, w_zt, List.map_cons, List.map_nil, List.replicate_succ, List.replicate_zero, List.cons_append, List.nil_append, List.append_nil, List.set_cons_zero, List.set_cons_succ, List.any_cons, List.any_nil, List.lookup_cons_self, meT, reduceCtorEq, decide_true, decide_false, Bool.or_false, Bool.false_or, Bool.or_true, Bool.true_or, Bool.not_true, Bool.not_false, Bool.and_true, Bool.true_and, Bool.and_false, Bool.false_and, true_and, and_true, wipeE, List.getElem?_concat_length, tq.fits.2.2.1]
      rw [List.append_assoc _ rest s2]
      simp (implicitDefEqProofs := false) (dsimp := false) (failIfUnchanged := false) only [lz1, z_ifT, z_ifF, ks_nx, ks_rt, ks_bk, ks_ct, ks_xc, kl_nx, kl_rt, kl_bk, kl_ct, kl_xc, kc_nx, kc_rt, kc_xc, kt_nx, kt_rt, kt_bk, kt_ct, kt_xc, kh_nx, kh_rt, un_n, un_s, isNon_1, isNon_2, isNon_3, isNon_4, isNon_5, isNon_6, isNon_7, boolQ_1, intQ_1, optQ_1, lstQ_1, sqQ_1, sqQ_2, insQ_1, getIx_0, getIx_1, getIx_2, getIx_3, getIx_4, getIx_5, setIx_0, setIx_1, setIx_2, bindQ_nm, bindL_0, bindL_1, bindQ_tp, z_var, z_con, z_glo, z_bin, z_neg, z_cmp, z_chain, z_isN, z_notN, z_and, z_or, z_not, z_ife, z_call, z_make, methQ_1, z_meth, z_fld, z_pr, z_me, z_isi, z_idx, z_sli, z_abs0, z_tup, z_lst, z_fstr, z_efld, z_eisi, z_comp, z_Tcmp, z_Tchain, z_TisN, z_TnotN, z_Tand, z_Tor, z_Tnot, z_Ttv, z_nil, z_cons, z_Fnil, z_Fcons, z_Tsn, z_Ts1, z_rng1, int2Q_1, z_rng2, z_enm, z_zip, z_sq, z_Bnil, z_Bcons, z_asg, z_asgt, z_asg2, z_setf, z_seti, augQ_1, augQ_2, z_augn, z_augf, z_exp, z_ret, z_retN, z_if, z_for, z_whl, z_brk, z_cnt, z_pas, z_rais0, z_rais1, z_try, z_Hnil, z_Hcons, v_v0, v_vs, v_add, v_sub, v_mul, v_fdiv, v_mod, v_pow, v_sadd, v_tadd, v_ladd, v_lmul, v_int, v_intb, v_abs, v_max2, v_min2, v_stri, v_lens, v_lent, v_lenr, v_tupt, v_tupr, v_lstt, v_lstr, v_any, v_all, v_ixt, v_ixr, v_seti, v_pts, v_ptn, v_sls, v_slt, v_slr, v_fld, v_setf, v_okl, v_oks, v_app, v_pop, v_lt, v_le, v_gt, v_ge, v_eq, v_ne, v_in, v_ni, v_eqii, v_eqss, v_eqbb, v_eqsi, v_eqis, v_eqni, v_eqin, v_eqns, v_eqsn, v_trn, v_trb, v_tri, v_trt, v_trr, v_trs, v_fms, v_fmi, v_inp, v_inl, v_ins, t_n, t_b, t_i, t_s, t_t, t_r, tyO_1, tyO_2, tyO_3, tyO_4, y_n, y_b, y_i, y_s, y_t, y_l, y_d, y_o, y_o1, y_o2, y_o3, y_o4, y_o5, y_o6, w_t, w_s, w_r, w_e, w_zt, List.map_cons, List.map_nil, List.replicate_succ, List.replicate_zero, List.cons_append, List.nil_append, List.append_nil, List.set_cons_zero, List.set_cons_succ, List.any_cons, List.any_nil, List.lookup_cons_self, meT, reduceCtorEq, decide_true, decide_false, Bool.or_false, Bool.false_or, Bool.or_true, Bool.true_or, Bool.not_true, Bool.not_false, Bool.and_true, Bool.true_and, Bool.and_false, Bool.false_and, true_and, and_true, wipeE, List.getElem?_concat_length, get_1]
      refine ⟨Nat.lt_of_le_of_lt (show _ ≤ 1000 by have := congrArg List.length h1; simp at this ⊢; omega) (by decide), ?_⟩
      refine hN _ _ ⟨done ++ [q], qs, rest ++ s2, _, _, _, join_snoc h1, rfl, ?_, rfl⟩
      rw [set_1, List.map_append]
      rfl
  · subst h3 h4
    cases qs with
    | cons q qs => cases h2
    | nil =>
      rw [List.append_nil] at h1
      subst h1
      simp (implicitDefEqProofs := false) (dsimp := false) (failIfUnchanged := false) only [lz1, z_ifT, z_ifF, ks_nx, ks_rt, ks_bk, ks_ct, ks_xc, kl_nx, kl_rt, kl_bk, kl_ct, kl_xc, kc_nx, kc_rt, kc_xc, kt_nx, kt_rt, kt_bk, kt_ct, kt_xc, kh_nx, kh_rt, un_n, un_s, isNon_1, isNon_2, isNon_3, isNon_4, isNon_5, isNon_6, isNon_7, boolQ_1, intQ_1, optQ_1, lstQ_1, sqQ_1, sqQ_2, insQ_1, getIx_0, getIx_1, getIx_2, getIx_3, getIx_4, getIx_5, setIx_0, setIx_1, setIx_2, bindQ_nm, bindL_0, bindL_1, bindQ_tp, z_var, z_con, z_glo, z_bin, z_neg, z_cmp, z_chain, z_isN, z_notN, z_and, z_or, z_not, z_ife, z_call, z_make, methQ_1, z_meth, z_fld, z_pr, z_me, z_isi, z_idx, z_sli, z_abs0, z_tup, z_lst, z_fstr, z_efld, z_eisi, z_comp, z_Tcmp, z_Tchain, z_TisN, z_TnotN, z_Tand, z_Tor, z_Tnot, z_Ttv, z_nil, z_cons, z_Fnil, z_Fcons, z_Tsn, z_Ts1, z_rng1, int2Q_1, z_rng2, z_enm, z_zip, z_sq, z_Bnil, z_Bcons, z_asg, z_asgt, z_asg2, z_setf, z_seti, augQ_1, augQ_2, z_augn, z_augf, z_exp, z_ret, z_retN, z_if, z_for, z_whl, z_brk, z_cnt, z_pas, z_rais0, z_rais1, z_try, z_Hnil, z_Hcons, v_v0, v_vs, v_add, v_sub, v_mul, v_fdiv, v_mod, v_pow, v_sadd, v_tadd, v_ladd, v_lmul, v_int, v_intb, v_abs, v_max2, v_min2, v_stri, v_lens, v_lent, v_lenr, v_tupt, v_tupr, v_lstt, v_lstr, v_any, v_all, v_ixt, v_ixr, v_seti, v_pts, v_ptn, v_sls, v_slt, v_slr, v_fld, v_setf, v_okl, v_oks, v_app, v_pop, v_lt, v_le, v_gt, v_ge, v_eq, v_ne, v_in, v_ni, v_eqii, v_eqss, v_eqbb, v_eqsi, v_eqis, v_eqni, v_eqin, v_eqns, v_eqsn, v_trn, v_trb, v_tri, v_trt, v_trr, v_trs, v_fms, v_fmi, v_inp, v_inl, v_ins, t_n, t_b, t_i, t_s, t_t, t_r, tyO_1, tyO_2, tyO_3, tyO_4, y_n, y_b, y_i, y_s, y_t, y_l, y_d, y_o, y_o1, y_o2, y_o3, y_o4, y_o5, y_o6, w_t, w_s, w_r, w_e, w_zt, List.map_cons, List.map_nil, List.replicate_succ, List.replicate_zero, List.cons_append, List.nil_append, List.append_nil, List.set_cons_zero, List.set_cons_succ, List.any_cons, List.any_nil, List.lookup_cons_self, meT, reduceCtorEq, decide_true, decide_false, Bool.or_false, Bool.false_or, Bool.or_true, Bool.true_or, Bool.not_true, Bool.not_false, Bool.and_true, Bool.true_and, Bool.and_false, Bool.false_and, true_and, and_true, wipeE, List.getElem?_concat_length]
      rw [List.append_assoc]
      exact hq _
end Y.K_k17
set_option linter.all false
set_option maxHeartbeats 4000000
set_option maxRecDepth 100000
namespace Y.K_k17
open Y PySem
theorem glo1 : T.glo 1 = some (.int 8) := rfl
theorem glo2 : T.glo 2 = some (.tup held) := rfl
theorem it1_join (n : Int) : it1 n = TL.joinL [32] [wStep, dg n] := rfl
theorem it2_join (n : Int) (x : List Nat) (m : Int) : it2 n x m = TL.joinL [32] [wCall, dg n, x, dg m] := by
  unfold it2 ct wCall
  show _ = [99, 97, 108, 108] ++ ([32] ++ (dg n ++ ([32] ++ (x ++ ([32] ++ dg m)))))
  simp
theorem ItemTx.fits {d : D} {t : List Nat} (h : ItemTx d t) : t ≠ [] ∧ 10 ∉ t ∧ isNon d = false ∧ t.length ≤ 20 := by
  cases h with
  | step n n0 n1 =>
    refine ⟨fun e => by simp [it1] at e, fun m => ?_, rfl, by simp [it1, dg]⟩
    unfold it1 at m
    rcases List.mem_append.mp m with m | m
    · exact absurd m (by decide)
    · exact no10d m
  | call n m x n0 n1 hx m0 m1 =>
    refine ⟨fun e => by simp [it2] at e, fun q => ?_, rfl, by have := ct_len (n := m) hx; simp [it2, dg]; omega⟩
    unfold it2 ct at q
    simp only [List.mem_append] at q
    rcases q with ((q | q) | q) | (q | q) | q
    · exact absurd q (by decide)
    · exact no10d q
    · exact absurd q (by decide)
    · exact no10 hx q
    · exact absurd q (by decide)
    · exact no10d q
theorem splititem {k : Nat} {d : D} {t : List Nat} {st : Store} {Q : QE} {X : QX} (h : ItemTx d t) (hq : ∀ rest, Q d (st ++ rest)) : meQ .split (.str t) [.str [32]] st fun v s => Call T (k + 3) 11 [v] s Q X := by
  have b : t.length + 2 ≤ line := big (by have := h.fits.2.2.2; omega)
  cases h with
  | step n n0 n1 =>
    rw [it1_join] at b ⊢
    refine go_split (by decide) (by simp) (fun p hp => ?_) b ?_
    · simp only [List.mem_cons, List.not_mem_nil, or_false] at hp
      rcases hp with z | z <;> subst z
      · decide
      · exact no32d
    · exact itemof (.step n n0 n1) List.getElem?_concat_length fun s2 => by rw [List.append_assoc]; exact hq _
  | call n m x n0 n1 hx m0 m1 =>
    rw [it2_join] at b ⊢
    refine go_split (by decide) (by simp) (fun p hp => ?_) b ?_
    · simp only [List.mem_cons, List.not_mem_nil, or_false] at hp
      rcases hp with z | z | z | z <;> subst z
      · decide
      · exact no32d
      · exact no32 hx
      · exact no32d
    · exact itemof (.call n m x n0 n1 hx m0 m1) List.getElem?_concat_length fun s2 => by rw [List.append_assoc]; exact hq _
theorem readweaving {k : Nat} {ps : List (D × List Nat)} {tx : List Nat} {st : Store} {Q : QE} {X : QX} (htx : tx = TL.joinL [10] (ps.map Prod.snd)) (hp : ∀ p ∈ ps, ItemTx p.1 p.2) (hl : ps.length ≤ 1000) (hs : tx.length ≤ 1000000)
    (hq : ∀ rest, Q (D.ref st.length) (st ++ [.lst (ps.map Prod.fst)] ++ rest)) : Call T (k + 5) 12 [.str tx] st Q X := by
  refine call_z f_read_weaving.fn rfl rfl ?_
  show wpB T (Call T (k + 4)) none b_read_weaving [some (.str tx), none, none, none, none] st _
  unfold b_read_weaving
  simp (implicitDefEqProofs := false) (dsimp := false) (failIfUnchanged := false) only [lz1, z_ifT, z_ifF, ks_nx, ks_rt, ks_bk, ks_ct, ks_xc, kl_nx, kl_rt, kl_bk, kl_ct, kl_xc, kc_nx, kc_rt, kc_xc, kt_nx, kt_rt, kt_bk, kt_ct, kt_xc, kh_nx, kh_rt, un_n, un_s, isNon_1, isNon_2, isNon_3, isNon_4, isNon_5, isNon_6, isNon_7, boolQ_1, intQ_1, optQ_1, lstQ_1, sqQ_1, sqQ_2, insQ_1, getIx_0, getIx_1, getIx_2, getIx_3, getIx_4, getIx_5, setIx_0, setIx_1, setIx_2, bindQ_nm, bindL_0, bindL_1, bindQ_tp, z_var, z_con, z_glo, z_bin, z_neg, z_cmp, z_chain, z_isN, z_notN, z_and, z_or, z_not, z_ife, z_call, z_make, methQ_1, z_meth, z_fld, z_pr, z_me, z_isi, z_idx, z_sli, z_abs0, z_tup, z_lst, z_fstr, z_efld, z_eisi, z_comp, z_Tcmp, z_Tchain, z_TisN, z_TnotN, z_Tand, z_Tor, z_Tnot, z_Ttv, z_nil, z_cons, z_Fnil, z_Fcons, z_Tsn, z_Ts1, z_rng1, int2Q_1, z_rng2, z_enm, z_zip, z_sq, z_Bnil, z_Bcons, z_asg, z_asgt, z_asg2, z_setf, z_seti, augQ_1, augQ_2, z_augn, z_augf, z_exp, z_ret, z_retN, z_if, z_for, z_whl, z_brk, z_cnt, z_pas, z_rais0, z_rais1, z_try, z_Hnil, z_Hcons, v_v0, v_vs, v_add, v_sub, v_mul, v_fdiv, v_mod, v_pow, v_sadd, v_tadd, v_ladd, v_lmul, v_int, v_intb, v_abs, v_max2, v_min2, v_stri, v_lens, v_lent, v_lenr, v_tupt, v_tupr, v_lstt, v_lstr, v_any, v_all, v_ixt, v_ixr, v_seti, v_pts, v_ptn, v_sls, v_slt, v_slr, v_fld, v_setf, v_okl, v_oks, v_app, v_pop, v_lt, v_le, v_gt, v_ge, v_eq, v_ne, v_in, v_ni, v_eqii, v_eqss, v_eqbb, v_eqsi, v_eqis, v_eqni, v_eqin, v_eqns, v_eqsn, v_trn, v_trb, v_tri, v_trt, v_trr, v_trs, v_fms, v_fmi, v_inp, v_inl, v_ins, t_n, t_b, t_i, t_s, t_t, t_r, tyO_1, tyO_2, tyO_3, tyO_4, y_n, y_b, y_i, y_s, y_t, y_l, y_d, y_o, y_o1, y_o2, y_o3, y_o4, y_o5, y_o6, w_t, w_s, w_r, w_e, w_zt, List.map_cons, List.map_nil, List.replicate_succ, List.replicate_zero, List.cons_append, List.nil_append, List.append_nil, List.set_cons_zero, List.set_cons_succ, List.any_cons, List.any_nil, List.lookup_cons_self, meT, reduceCtorEq, decide_true, decide_false, Bool.or_false, Bool.false_or, Bool.or_true, Bool.true_or, Bool.not_true, Bool.not_false, Bool.and_true, Bool.true_and, Bool.and_false, Bool.false_and, true_and, and_true, wipeE, List.getElem?_concat_length]
  have hs' := hs
  rw [htx] at hs'
  rw [htx]
  refine linesof (fun p m => by
    obtain ⟨q, hq', rfl⟩ := List.mem_map.mp m
    exact ⟨(hp q hq').fits.1, (hp q hq').fits.2.1⟩) hs' ?_
  rw [← htx]
  simp (implicitDefEqProofs := false) (dsimp := false) (failIfUnchanged := false) only [lz1, z_ifT, z_ifF, ks_nx, ks_rt, ks_bk, ks_ct, ks_xc, kl_nx, kl_rt, kl_bk, kl_ct, kl_xc, kc_nx, kc_rt, kc_xc, kt_nx, kt_rt, kt_bk, kt_ct, kt_xc, kh_nx, kh_rt, un_n, un_s, isNon_1, isNon_2, isNon_3, isNon_4, isNon_5, isNon_6, isNon_7, boolQ_1, intQ_1, optQ_1, lstQ_1, sqQ_1, sqQ_2, insQ_1, getIx_0, getIx_1, getIx_2, getIx_3, getIx_4, getIx_5, setIx_0, setIx_1, setIx_2, bindQ_nm, bindL_0, bindL_1, bindQ_tp, z_var, z_con, z_glo, z_bin, z_neg, z_cmp, z_chain, z_isN, z_notN, z_and, z_or, z_not, z_ife, z_call, z_make, methQ_1, z_meth, z_fld, z_pr, z_me, z_isi, z_idx, z_sli, z_abs0, z_tup, z_lst, z_fstr, z_efld, z_eisi, z_comp, z_Tcmp, z_Tchain, z_TisN, z_TnotN, z_Tand, z_Tor, z_Tnot, z_Ttv, z_nil, z_cons, z_Fnil, z_Fcons, z_Tsn, z_Ts1, z_rng1, int2Q_1, z_rng2, z_enm, z_zip, z_sq, z_Bnil, z_Bcons, z_asg, z_asgt, z_asg2, z_setf, z_seti, augQ_1, augQ_2, z_augn, z_augf, z_exp, z_ret, z_retN, z_if, z_for, z_whl, z_brk, z_cnt, z_pas, z_rais0, z_rais1, z_try, z_Hnil, z_Hcons, v_v0, v_vs, v_add, v_sub, v_mul, v_fdiv, v_mod, v_pow, v_sadd, v_tadd, v_ladd, v_lmul, v_int, v_intb, v_abs, v_max2, v_min2, v_stri, v_lens, v_lent, v_lenr, v_tupt, v_tupr, v_lstt, v_lstr, v_any, v_all, v_ixt, v_ixr, v_seti, v_pts, v_ptn, v_sls, v_slt, v_slr, v_fld, v_setf, v_okl, v_oks, v_app, v_pop, v_lt, v_le, v_gt, v_ge, v_eq, v_ne, v_in, v_ni, v_eqii, v_eqss, v_eqbb, v_eqsi, v_eqis, v_eqni, v_eqin, v_eqns, v_eqsn, v_trn, v_trb, v_tri, v_trt, v_trr, v_trs, v_fms, v_fmi, v_inp, v_inl, v_ins, t_n, t_b, t_i, t_s, t_t, t_r, tyO_1, tyO_2, tyO_3, tyO_4, y_n, y_b, y_i, y_s, y_t, y_l, y_d, y_o, y_o1, y_o2, y_o3, y_o4, y_o5, y_o6, w_t, w_s, w_r, w_e, w_zt, List.map_cons, List.map_nil, List.replicate_succ, List.replicate_zero, List.cons_append, List.nil_append, List.append_nil, List.set_cons_zero, List.set_cons_succ, List.any_cons, List.any_nil, List.lookup_cons_self, meT, reduceCtorEq, decide_true, decide_false, Bool.or_false, Bool.false_or, Bool.or_true, Bool.true_or, Bool.not_true, Bool.not_false, Bool.and_true, Bool.true_and, Bool.and_false, Bool.false_and, true_and, and_true, wipeE, List.getElem?_concat_length]
  refine for_e (ds := (ps.map Prod.snd).map D.str) (fun i r env s => ∃ done qs rest o1 o2 o3, ps = done ++ qs ∧ r = (qs.map Prod.snd).map D.str ∧ s = st ++ [.lst (done.map Prod.fst)] ++ [.lst ((ps.map Prod.snd).map D.str)] ++ rest ∧ env = [some (.str tx), some (.ref st.length), o1, o2, o3]) ⟨[], ps, [], none, none, none, rfl, rfl, by simp, rfl⟩ (fun i r env s ⟨done, qs, rest, o1, o2, o3, h1, h2, h3, h4⟩ => ?_) (fun i d r env s N hd ⟨done, qs, rest, o1, o2, o3, h1, h2, h3, h4⟩ hN => ?_) (fun env s ⟨done, qs, rest, o1, o2, o3, h1, h2, h3, h4⟩ => ?_)
  · subst h3
    rw [show (st ++ [O.lst []]).length = st.length + 1 by simp, get_2]
    rfl
  · subst h3 h4
    cases qs with
    | nil => cases h2
    | cons q qs =>
      cases h2
      have tq := hp q (by rw [h1]; simp)
      simp (implicitDefEqProofs := false) (dsimp := false) (failIfUnchanged := false) only [lz1, z_ifT, z_ifF, ks_nx, ks_rt, ks_bk, ks_ct, ks_xc, kl_nx, kl_rt, kl_bk, kl_ct, kl_xc, kc_nx, kc_rt, kc_xc, kt_nx, kt_rt, kt_bk, kt_ct, kt_xc, kh_nx, kh_rt, un_n, un_s, isNon_1, isNon_2, isNon_3, isNon_4, isNon_5, isNon_6, isNon_7, boolQ_1, intQ_1, optQ_1, lstQ_1, sqQ_1, sqQ_2, insQ_1, getIx_0, getIx_1, getIx_2, getIx_3, getIx_4, getIx_5, setIx_0, setIx_1, setIx_2, bindQ_nm, bindL_0, bindL_1, bindQ_tp, z_var, z_con, z_glo, z_bin, z_neg, z_cmp, z_chain, z_isN, z_notN, z_and, z_or, z_not, z_ife, z_call, z_make, methQ_1, z_meth, z_fld, z_pr, z_me, z_isi, z_idx, z_sli, z_abs0, z_tup, z_lst, z_fstr, z_efld, z_eisi, z_comp, z_Tcmp, z_Tchain, z_TisN, z_TnotN, z_Tand, z_Tor, z_Tnot, z_Ttv, z_nil, z_cons, z_Fnil, z_Fcons, z_Tsn, z_Ts1, z_rng1, int2Q_1, z_rng2, z_enm, z_zip, z_sq, z_Bnil, z_Bcons, z_asg, z_asgt, z_asg2, z_setf, z_seti, augQ_1, augQ_2, z_augn, z_augf, z_exp, z_ret, z_retN, z_if, z_for, z_whl, z_brk, z_cnt, z_pas, z_rais0, z_rais1, z_try, z_Hnil, z_Hcons, v_v0, v_vs, v_add, v_sub, v_mul, v_fdiv, v_mod, v_pow, v_sadd, v_tadd, v_ladd, v_lmul, v_int, v_intb, v_abs, v_max2, v_min2, v_stri, v_lens, v_lent, v_lenr, v_tupt, v_tupr, v_lstt, v_lstr, v_any, v_all, v_ixt, v_ixr, v_seti, v_pts, v_ptn, v_sls, v_slt, v_slr, v_fld, v_setf, v_okl, v_oks, v_app, v_pop, v_lt, v_le, v_gt, v_ge, v_eq, v_ne, v_in, v_ni, v_eqii, v_eqss, v_eqbb, v_eqsi, v_eqis, v_eqni, v_eqin, v_eqns, v_eqsn, v_trn, v_trb, v_tri, v_trt, v_trr, v_trs, v_fms, v_fmi, v_inp, v_inl, v_ins, t_n, t_b, t_i, t_s, t_t, t_r, tyO_1, tyO_2, tyO_3, tyO_4, y_n, y_b, y_i, y_s, y_t, y_l, y_d, y_o, y_o1, y_o2, y_o3, y_o4, y_o5, y_o6, w_t, w_s, w_r, w_e, w_zt, List.map_cons, List.map_nil, List.replicate_succ, List.replicate_zero, List.cons_append, List.nil_append, List.append_nil, List.set_cons_zero, List.set_cons_succ, List.any_cons, List.any_nil, List.lookup_cons_self, meT, reduceCtorEq, decide_true, decide_false, Bool.or_false, Bool.false_or, Bool.or_true, Bool.true_or, Bool.not_true, Bool.not_false, Bool.and_true, Bool.true_and, Bool.and_false, Bool.false_and, true_and, and_true, wipeE, List.getElem?_concat_length]
      refine splititem tq fun s2 => ?_
      simp (implicitDefEqProofs := false) (dsimp := false) (failIfUnchanged := false) only [lz1, z_ifT, z_ifF, ks_nx, ks_rt, ks_bk, ks_ct, ks_xc, kl_nx, kl_rt, kl_bk, kl_ct, kl_xc, kc_nx, kc_rt, kc_xc, kt_nx, kt_rt, kt_bk, kt_ct, kt_xc, kh_nx, kh_rt, un_n, un_s, isNon_1, isNon_2, isNon_3, isNon_4, isNon_5, isNon_6, isNon_7, boolQ_1, intQ_1, optQ_1, lstQ_1, sqQ_1, sqQ_2, insQ_1, getIx_0, getIx_1, getIx_2, getIx_3, getIx_4, getIx_5, setIx_0, setIx_1, setIx_2, bindQ_nm, bindL_0, bindL_1, bindQ_tp, z_var, z_con, z_glo, z_bin, z_neg, z_cmp, z_chain, z_isN, z_notN, z_and, z_or, z_not, z_ife, z_call, z_make, methQ_1, z_meth, z_fld, z_pr, z_me, z_isi, z_idx, z_sli, z_abs0, z_tup, z_lst, z_fstr, z_efld, z_eisi, z_comp, z_Tcmp, z_Tchain, z_TisN, z_TnotN, z_Tand, z_Tor, z_Tnot, z_Ttv, z_nil, z_cons, z_Fnil, z_Fcons, z_Tsn, z_Ts1, z_rng1, int2Q_1, z_rng2, z_enm, z_zip, z_sq, z_Bnil, z_Bcons, z_asg, z_asgt, z_asg2, z_setf, z_seti, augQ_1, augQ_2, z_augn, z_augf, z_exp, z_ret, z_retN, z_if, z_for, z_whl, z_brk, z_cnt, z_pas, z_rais0, z_rais1, z_try, z_Hnil, z_Hcons, v_v0, v_vs, v_add, v_sub, v_mul, v_fdiv, v_mod, v_pow, v_sadd, v_tadd, v_ladd, v_lmul, v_int, v_intb, v_abs, v_max2, v_min2, v_stri, v_lens, v_lent, v_lenr, v_tupt, v_tupr, v_lstt, v_lstr, v_any, v_all, v_ixt, v_ixr, v_seti, v_pts, v_ptn, v_sls, v_slt, v_slr, v_fld, v_setf, v_okl, v_oks, v_app, v_pop, v_lt, v_le, v_gt, v_ge, v_eq, v_ne, v_in, v_ni, v_eqii, v_eqss, v_eqbb, v_eqsi, v_eqis, v_eqni, v_eqin, v_eqns, v_eqsn, v_trn, v_trb, v_tri, v_trt, v_trr, v_trs, v_fms, v_fmi, v_inp, v_inl, v_ins, t_n, t_b, t_i, t_s, t_t, t_r, tyO_1, tyO_2, tyO_3, tyO_4, y_n, y_b, y_i, y_s, y_t, y_l, y_d, y_o, y_o1, y_o2, y_o3, y_o4, y_o5, y_o6, w_t, w_s, w_r, w_e, w_zt, List.map_cons, List.map_nil, List.replicate_succ, List.replicate_zero, List.cons_append, List.nil_append, List.append_nil, List.set_cons_zero, List.set_cons_succ, List.any_cons, List.any_nil, List.lookup_cons_self, meT, reduceCtorEq, decide_true, decide_false, Bool.or_false, Bool.false_or, Bool.or_true, Bool.true_or, Bool.not_true, Bool.not_false, Bool.and_true, Bool.true_and, Bool.and_false, Bool.false_and, true_and, and_true, wipeE, List.getElem?_concat_length, tq.fits.2.2.1]
      rw [List.append_assoc _ rest s2]
      simp (implicitDefEqProofs := false) (dsimp := false) (failIfUnchanged := false) only [lz1, z_ifT, z_ifF, ks_nx, ks_rt, ks_bk, ks_ct, ks_xc, kl_nx, kl_rt, kl_bk, kl_ct, kl_xc, kc_nx, kc_rt, kc_xc, kt_nx, kt_rt, kt_bk, kt_ct, kt_xc, kh_nx, kh_rt, un_n, un_s, isNon_1, isNon_2, isNon_3, isNon_4, isNon_5, isNon_6, isNon_7, boolQ_1, intQ_1, optQ_1, lstQ_1, sqQ_1, sqQ_2, insQ_1, getIx_0, getIx_1, getIx_2, getIx_3, getIx_4, getIx_5, setIx_0, setIx_1, setIx_2, bindQ_nm, bindL_0, bindL_1, bindQ_tp, z_var, z_con, z_glo, z_bin, z_neg, z_cmp, z_chain, z_isN, z_notN, z_and, z_or, z_not, z_ife, z_call, z_make, methQ_1, z_meth, z_fld, z_pr, z_me, z_isi, z_idx, z_sli, z_abs0, z_tup, z_lst, z_fstr, z_efld, z_eisi, z_comp, z_Tcmp, z_Tchain, z_TisN, z_TnotN, z_Tand, z_Tor, z_Tnot, z_Ttv, z_nil, z_cons, z_Fnil, z_Fcons, z_Tsn, z_Ts1, z_rng1, int2Q_1, z_rng2, z_enm, z_zip, z_sq, z_Bnil, z_Bcons, z_asg, z_asgt, z_asg2, z_setf, z_seti, augQ_1, augQ_2, z_augn, z_augf, z_exp, z_ret, z_retN, z_if, z_for, z_whl, z_brk, z_cnt, z_pas, z_rais0, z_rais1, z_try, z_Hnil, z_Hcons, v_v0, v_vs, v_add, v_sub, v_mul, v_fdiv, v_mod, v_pow, v_sadd, v_tadd, v_ladd, v_lmul, v_int, v_intb, v_abs, v_max2, v_min2, v_stri, v_lens, v_lent, v_lenr, v_tupt, v_tupr, v_lstt, v_lstr, v_any, v_all, v_ixt, v_ixr, v_seti, v_pts, v_ptn, v_sls, v_slt, v_slr, v_fld, v_setf, v_okl, v_oks, v_app, v_pop, v_lt, v_le, v_gt, v_ge, v_eq, v_ne, v_in, v_ni, v_eqii, v_eqss, v_eqbb, v_eqsi, v_eqis, v_eqni, v_eqin, v_eqns, v_eqsn, v_trn, v_trb, v_tri, v_trt, v_trr, v_trs, v_fms, v_fmi, v_inp, v_inl, v_ins, t_n, t_b, t_i, t_s, t_t, t_r, tyO_1, tyO_2, tyO_3, tyO_4, y_n, y_b, y_i, y_s, y_t, y_l, y_d, y_o, y_o1, y_o2, y_o3, y_o4, y_o5, y_o6, w_t, w_s, w_r, w_e, w_zt, List.map_cons, List.map_nil, List.replicate_succ, List.replicate_zero, List.cons_append, List.nil_append, List.append_nil, List.set_cons_zero, List.set_cons_succ, List.any_cons, List.any_nil, List.lookup_cons_self, meT, reduceCtorEq, decide_true, decide_false, Bool.or_false, Bool.false_or, Bool.or_true, Bool.true_or, Bool.not_true, Bool.not_false, Bool.and_true, Bool.true_and, Bool.and_false, Bool.false_and, true_and, and_true, wipeE, List.getElem?_concat_length, get_1]
      refine ⟨Nat.lt_of_le_of_lt (show _ ≤ 1000 by have := congrArg List.length h1; simp at this ⊢; omega) (by decide), ?_⟩
      refine hN _ _ ⟨done ++ [q], qs, rest ++ s2, _, _, _, join_snoc h1, rfl, ?_, rfl⟩
      rw [set_1, List.map_append]
      rfl
  · subst h3 h4
    cases qs with
    | cons q qs => cases h2
    | nil =>
      rw [List.append_nil] at h1
      subst h1
      simp (implicitDefEqProofs := false) (dsimp := false) (failIfUnchanged := false) only [lz1, z_ifT, z_ifF, ks_nx, ks_rt, ks_bk, ks_ct, ks_xc, kl_nx, kl_rt, kl_bk, kl_ct, kl_xc, kc_nx, kc_rt, kc_xc, kt_nx, kt_rt, kt_bk, kt_ct, kt_xc, kh_nx, kh_rt, un_n, un_s, isNon_1, isNon_2, isNon_3, isNon_4, isNon_5, isNon_6, isNon_7, boolQ_1, intQ_1, optQ_1, lstQ_1, sqQ_1, sqQ_2, insQ_1, getIx_0, getIx_1, getIx_2, getIx_3, getIx_4, getIx_5, setIx_0, setIx_1, setIx_2, bindQ_nm, bindL_0, bindL_1, bindQ_tp, z_var, z_con, z_glo, z_bin, z_neg, z_cmp, z_chain, z_isN, z_notN, z_and, z_or, z_not, z_ife, z_call, z_make, methQ_1, z_meth, z_fld, z_pr, z_me, z_isi, z_idx, z_sli, z_abs0, z_tup, z_lst, z_fstr, z_efld, z_eisi, z_comp, z_Tcmp, z_Tchain, z_TisN, z_TnotN, z_Tand, z_Tor, z_Tnot, z_Ttv, z_nil, z_cons, z_Fnil, z_Fcons, z_Tsn, z_Ts1, z_rng1, int2Q_1, z_rng2, z_enm, z_zip, z_sq, z_Bnil, z_Bcons, z_asg, z_asgt, z_asg2, z_setf, z_seti, augQ_1, augQ_2, z_augn, z_augf, z_exp, z_ret, z_retN, z_if, z_for, z_whl, z_brk, z_cnt, z_pas, z_rais0, z_rais1, z_try, z_Hnil, z_Hcons, v_v0, v_vs, v_add, v_sub, v_mul, v_fdiv, v_mod, v_pow, v_sadd, v_tadd, v_ladd, v_lmul, v_int, v_intb, v_abs, v_max2, v_min2, v_stri, v_lens, v_lent, v_lenr, v_tupt, v_tupr, v_lstt, v_lstr, v_any, v_all, v_ixt, v_ixr, v_seti, v_pts, v_ptn, v_sls, v_slt, v_slr, v_fld, v_setf, v_okl, v_oks, v_app, v_pop, v_lt, v_le, v_gt, v_ge, v_eq, v_ne, v_in, v_ni, v_eqii, v_eqss, v_eqbb, v_eqsi, v_eqis, v_eqni, v_eqin, v_eqns, v_eqsn, v_trn, v_trb, v_tri, v_trt, v_trr, v_trs, v_fms, v_fmi, v_inp, v_inl, v_ins, t_n, t_b, t_i, t_s, t_t, t_r, tyO_1, tyO_2, tyO_3, tyO_4, y_n, y_b, y_i, y_s, y_t, y_l, y_d, y_o, y_o1, y_o2, y_o3, y_o4, y_o5, y_o6, w_t, w_s, w_r, w_e, w_zt, List.map_cons, List.map_nil, List.replicate_succ, List.replicate_zero, List.cons_append, List.nil_append, List.append_nil, List.set_cons_zero, List.set_cons_succ, List.any_cons, List.any_nil, List.lookup_cons_self, meT, reduceCtorEq, decide_true, decide_false, Bool.or_false, Bool.false_or, Bool.or_true, Bool.true_or, Bool.not_true, Bool.not_false, Bool.and_true, Bool.true_and, Bool.and_false, Bool.false_and, true_and, and_true, wipeE, List.getElem?_concat_length]
      rw [List.append_assoc]
      exact hq _
theorem weavingtext {k r : Nat} {ps : List (D × List Nat)} {st : Store} {Q : QE} {X : QX} (e : st[r]? = some (.lst (ps.map Prod.fst))) (hp : ∀ p ∈ ps, ItemTx p.1 p.2) (hl : ps.length ≤ 1000) (hs : ((ps.map Prod.snd).map List.length).sum + ps.length ≤ 1000000)
    (hq : Q (.str (TL.joinL [10] (ps.map Prod.snd))) (st ++ [.lst ((ps.map Prod.snd).map D.str)])) : Call T (k + 5) 10 [.ref r] st Q X := by
  have rl := (List.getElem?_eq_some_iff.mp e).1
  have e2 : ∀ o : O, (st ++ [o])[r]? = some (.lst (ps.map Prod.fst)) := fun o => by rw [List.getElem?_append_left rl]; exact e
  refine call_z f_weaving_text.fn rfl rfl ?_
  show wpB T (Call T (k + 4)) none b_weaving_text [some (.ref r), none, none, none, none] st _
  unfold b_weaving_text
  simp (implicitDefEqProofs := false) (dsimp := false) (failIfUnchanged := false) only [lz1, z_ifT, z_ifF, ks_nx, ks_rt, ks_bk, ks_ct, ks_xc, kl_nx, kl_rt, kl_bk, kl_ct, kl_xc, kc_nx, kc_rt, kc_xc, kt_nx, kt_rt, kt_bk, kt_ct, kt_xc, kh_nx, kh_rt, un_n, un_s, isNon_1, isNon_2, isNon_3, isNon_4, isNon_5, isNon_6, isNon_7, boolQ_1, intQ_1, optQ_1, lstQ_1, sqQ_1, sqQ_2, insQ_1, getIx_0, getIx_1, getIx_2, getIx_3, getIx_4, getIx_5, setIx_0, setIx_1, setIx_2, bindQ_nm, bindL_0, bindL_1, bindQ_tp, z_var, z_con, z_glo, z_bin, z_neg, z_cmp, z_chain, z_isN, z_notN, z_and, z_or, z_not, z_ife, z_call, z_make, methQ_1, z_meth, z_fld, z_pr, z_me, z_isi, z_idx, z_sli, z_abs0, z_tup, z_lst, z_fstr, z_efld, z_eisi, z_comp, z_Tcmp, z_Tchain, z_TisN, z_TnotN, z_Tand, z_Tor, z_Tnot, z_Ttv, z_nil, z_cons, z_Fnil, z_Fcons, z_Tsn, z_Ts1, z_rng1, int2Q_1, z_rng2, z_enm, z_zip, z_sq, z_Bnil, z_Bcons, z_asg, z_asgt, z_asg2, z_setf, z_seti, augQ_1, augQ_2, z_augn, z_augf, z_exp, z_ret, z_retN, z_if, z_for, z_whl, z_brk, z_cnt, z_pas, z_rais0, z_rais1, z_try, z_Hnil, z_Hcons, v_v0, v_vs, v_add, v_sub, v_mul, v_fdiv, v_mod, v_pow, v_sadd, v_tadd, v_ladd, v_lmul, v_int, v_intb, v_abs, v_max2, v_min2, v_stri, v_lens, v_lent, v_lenr, v_tupt, v_tupr, v_lstt, v_lstr, v_any, v_all, v_ixt, v_ixr, v_seti, v_pts, v_ptn, v_sls, v_slt, v_slr, v_fld, v_setf, v_okl, v_oks, v_app, v_pop, v_lt, v_le, v_gt, v_ge, v_eq, v_ne, v_in, v_ni, v_eqii, v_eqss, v_eqbb, v_eqsi, v_eqis, v_eqni, v_eqin, v_eqns, v_eqsn, v_trn, v_trb, v_tri, v_trt, v_trr, v_trs, v_fms, v_fmi, v_inp, v_inl, v_ins, t_n, t_b, t_i, t_s, t_t, t_r, tyO_1, tyO_2, tyO_3, tyO_4, y_n, y_b, y_i, y_s, y_t, y_l, y_d, y_o, y_o1, y_o2, y_o3, y_o4, y_o5, y_o6, w_t, w_s, w_r, w_e, w_zt, List.map_cons, List.map_nil, List.replicate_succ, List.replicate_zero, List.cons_append, List.nil_append, List.append_nil, List.set_cons_zero, List.set_cons_succ, List.any_cons, List.any_nil, List.lookup_cons_self, meT, reduceCtorEq, decide_true, decide_false, Bool.or_false, Bool.false_or, Bool.or_true, Bool.true_or, Bool.not_true, Bool.not_false, Bool.and_true, Bool.true_and, Bool.and_false, Bool.false_and, true_and, and_true, wipeE, List.getElem?_concat_length, e, e2]
  refine for_e (ds := ps.map Prod.fst) (fun i r' env s => ∃ done qs o1 o2 o3, ps = done ++ qs ∧ r' = qs.map Prod.fst ∧ s = st ++ [.lst ((done.map Prod.snd).map D.str)] ∧ env = [some (.ref r), some (.ref st.length), o1, o2, o3]) ⟨[], ps, none, none, none, rfl, rfl, rfl, rfl⟩ (fun i r' env s ⟨done, qs, o1, o2, o3, h1, h2, h3, h4⟩ => ?_) (fun i d r' env s N hd ⟨done, qs, o1, o2, o3, h1, h2, h3, h4⟩ hN => ?_) (fun env s ⟨done, qs, o1, o2, o3, h1, h2, h3, h4⟩ => ?_)
  · subst h3
    rw [e2]
    rfl
  · subst h3 h4
    cases qs with
    | nil => cases h2
    | cons q qs =>
      cases h2
      have tq := hp q (by rw [h1]; simp)
      simp (implicitDefEqProofs := false) (dsimp := false) (failIfUnchanged := false) only [lz1, z_ifT, z_ifF, ks_nx, ks_rt, ks_bk, ks_ct, ks_xc, kl_nx, kl_rt, kl_bk, kl_ct, kl_xc, kc_nx, kc_rt, kc_xc, kt_nx, kt_rt, kt_bk, kt_ct, kt_xc, kh_nx, kh_rt, un_n, un_s, isNon_1, isNon_2, isNon_3, isNon_4, isNon_5, isNon_6, isNon_7, boolQ_1, intQ_1, optQ_1, lstQ_1, sqQ_1, sqQ_2, insQ_1, getIx_0, getIx_1, getIx_2, getIx_3, getIx_4, getIx_5, setIx_0, setIx_1, setIx_2, bindQ_nm, bindL_0, bindL_1, bindQ_tp, z_var, z_con, z_glo, z_bin, z_neg, z_cmp, z_chain, z_isN, z_notN, z_and, z_or, z_not, z_ife, z_call, z_make, methQ_1, z_meth, z_fld, z_pr, z_me, z_isi, z_idx, z_sli, z_abs0, z_tup, z_lst, z_fstr, z_efld, z_eisi, z_comp, z_Tcmp, z_Tchain, z_TisN, z_TnotN, z_Tand, z_Tor, z_Tnot, z_Ttv, z_nil, z_cons, z_Fnil, z_Fcons, z_Tsn, z_Ts1, z_rng1, int2Q_1, z_rng2, z_enm, z_zip, z_sq, z_Bnil, z_Bcons, z_asg, z_asgt, z_asg2, z_setf, z_seti, augQ_1, augQ_2, z_augn, z_augf, z_exp, z_ret, z_retN, z_if, z_for, z_whl, z_brk, z_cnt, z_pas, z_rais0, z_rais1, z_try, z_Hnil, z_Hcons, v_v0, v_vs, v_add, v_sub, v_mul, v_fdiv, v_mod, v_pow, v_sadd, v_tadd, v_ladd, v_lmul, v_int, v_intb, v_abs, v_max2, v_min2, v_stri, v_lens, v_lent, v_lenr, v_tupt, v_tupr, v_lstt, v_lstr, v_any, v_all, v_ixt, v_ixr, v_seti, v_pts, v_ptn, v_sls, v_slt, v_slr, v_fld, v_setf, v_okl, v_oks, v_app, v_pop, v_lt, v_le, v_gt, v_ge, v_eq, v_ne, v_in, v_ni, v_eqii, v_eqss, v_eqbb, v_eqsi, v_eqis, v_eqni, v_eqin, v_eqns, v_eqsn, v_trn, v_trb, v_tri, v_trt, v_trr, v_trs, v_fms, v_fmi, v_inp, v_inl, v_ins, t_n, t_b, t_i, t_s, t_t, t_r, tyO_1, tyO_2, tyO_3, tyO_4, y_n, y_b, y_i, y_s, y_t, y_l, y_d, y_o, y_o1, y_o2, y_o3, y_o4, y_o5, y_o6, w_t, w_s, w_r, w_e, w_zt, List.map_cons, List.map_nil, List.replicate_succ, List.replicate_zero, List.cons_append, List.nil_append, List.append_nil, List.set_cons_zero, List.set_cons_succ, List.any_cons, List.any_nil, List.lookup_cons_self, meT, reduceCtorEq, decide_true, decide_false, Bool.or_false, Bool.false_or, Bool.or_true, Bool.true_or, Bool.not_true, Bool.not_false, Bool.and_true, Bool.true_and, Bool.and_false, Bool.false_and, true_and, and_true, wipeE, List.getElem?_concat_length]
      refine itemwords tq ?_
      simp (implicitDefEqProofs := false) (dsimp := false) (failIfUnchanged := false) only [lz1, z_ifT, z_ifF, ks_nx, ks_rt, ks_bk, ks_ct, ks_xc, kl_nx, kl_rt, kl_bk, kl_ct, kl_xc, kc_nx, kc_rt, kc_xc, kt_nx, kt_rt, kt_bk, kt_ct, kt_xc, kh_nx, kh_rt, un_n, un_s, isNon_1, isNon_2, isNon_3, isNon_4, isNon_5, isNon_6, isNon_7, boolQ_1, intQ_1, optQ_1, lstQ_1, sqQ_1, sqQ_2, insQ_1, getIx_0, getIx_1, getIx_2, getIx_3, getIx_4, getIx_5, setIx_0, setIx_1, setIx_2, bindQ_nm, bindL_0, bindL_1, bindQ_tp, z_var, z_con, z_glo, z_bin, z_neg, z_cmp, z_chain, z_isN, z_notN, z_and, z_or, z_not, z_ife, z_call, z_make, methQ_1, z_meth, z_fld, z_pr, z_me, z_isi, z_idx, z_sli, z_abs0, z_tup, z_lst, z_fstr, z_efld, z_eisi, z_comp, z_Tcmp, z_Tchain, z_TisN, z_TnotN, z_Tand, z_Tor, z_Tnot, z_Ttv, z_nil, z_cons, z_Fnil, z_Fcons, z_Tsn, z_Ts1, z_rng1, int2Q_1, z_rng2, z_enm, z_zip, z_sq, z_Bnil, z_Bcons, z_asg, z_asgt, z_asg2, z_setf, z_seti, augQ_1, augQ_2, z_augn, z_augf, z_exp, z_ret, z_retN, z_if, z_for, z_whl, z_brk, z_cnt, z_pas, z_rais0, z_rais1, z_try, z_Hnil, z_Hcons, v_v0, v_vs, v_add, v_sub, v_mul, v_fdiv, v_mod, v_pow, v_sadd, v_tadd, v_ladd, v_lmul, v_int, v_intb, v_abs, v_max2, v_min2, v_stri, v_lens, v_lent, v_lenr, v_tupt, v_tupr, v_lstt, v_lstr, v_any, v_all, v_ixt, v_ixr, v_seti, v_pts, v_ptn, v_sls, v_slt, v_slr, v_fld, v_setf, v_okl, v_oks, v_app, v_pop, v_lt, v_le, v_gt, v_ge, v_eq, v_ne, v_in, v_ni, v_eqii, v_eqss, v_eqbb, v_eqsi, v_eqis, v_eqni, v_eqin, v_eqns, v_eqsn, v_trn, v_trb, v_tri, v_trt, v_trr, v_trs, v_fms, v_fmi, v_inp, v_inl, v_ins, t_n, t_b, t_i, t_s, t_t, t_r, tyO_1, tyO_2, tyO_3, tyO_4, y_n, y_b, y_i, y_s, y_t, y_l, y_d, y_o, y_o1, y_o2, y_o3, y_o4, y_o5, y_o6, w_t, w_s, w_r, w_e, w_zt, List.map_cons, List.map_nil, List.replicate_succ, List.replicate_zero, List.cons_append, List.nil_append, List.append_nil, List.set_cons_zero, List.set_cons_succ, List.any_cons, List.any_nil, List.lookup_cons_self, meT, reduceCtorEq, decide_true, decide_false, Bool.or_false, Bool.false_or, Bool.or_true, Bool.true_or, Bool.not_true, Bool.not_false, Bool.and_true, Bool.true_and, Bool.and_false, Bool.false_and, true_and, and_true, wipeE, List.getElem?_concat_length]
      refine ⟨Nat.lt_of_le_of_lt (show _ ≤ 1000 by have := congrArg List.length h1; simp at this ⊢; omega) (by decide), ?_⟩
      refine hN _ _ ⟨done ++ [q], qs, _, _, _, join_snoc h1, rfl, ?_, rfl⟩
      rw [set_last]
      simp
  · subst h3 h4
    cases qs with
    | cons q qs => cases h2
    | nil =>
      rw [List.append_nil] at h1
      subst h1
      simp (implicitDefEqProofs := false) (dsimp := false) (failIfUnchanged := false) only [lz1, z_ifT, z_ifF, ks_nx, ks_rt, ks_bk, ks_ct, ks_xc, kl_nx, kl_rt, kl_bk, kl_ct, kl_xc, kc_nx, kc_rt, kc_xc, kt_nx, kt_rt, kt_bk, kt_ct, kt_xc, kh_nx, kh_rt, un_n, un_s, isNon_1, isNon_2, isNon_3, isNon_4, isNon_5, isNon_6, isNon_7, boolQ_1, intQ_1, optQ_1, lstQ_1, sqQ_1, sqQ_2, insQ_1, getIx_0, getIx_1, getIx_2, getIx_3, getIx_4, getIx_5, setIx_0, setIx_1, setIx_2, bindQ_nm, bindL_0, bindL_1, bindQ_tp, z_var, z_con, z_glo, z_bin, z_neg, z_cmp, z_chain, z_isN, z_notN, z_and, z_or, z_not, z_ife, z_call, z_make, methQ_1, z_meth, z_fld, z_pr, z_me, z_isi, z_idx, z_sli, z_abs0, z_tup, z_lst, z_fstr, z_efld, z_eisi, z_comp, z_Tcmp, z_Tchain, z_TisN, z_TnotN, z_Tand, z_Tor, z_Tnot, z_Ttv, z_nil, z_cons, z_Fnil, z_Fcons, z_Tsn, z_Ts1, z_rng1, int2Q_1, z_rng2, z_enm, z_zip, z_sq, z_Bnil, z_Bcons, z_asg, z_asgt, z_asg2, z_setf, z_seti, augQ_1, augQ_2, z_augn, z_augf, z_exp, z_ret, z_retN, z_if, z_for, z_whl, z_brk, z_cnt, z_pas, z_rais0, z_rais1, z_try, z_Hnil, z_Hcons, v_v0, v_vs, v_add, v_sub, v_mul, v_fdiv, v_mod, v_pow, v_sadd, v_tadd, v_ladd, v_lmul, v_int, v_intb, v_abs, v_max2, v_min2, v_stri, v_lens, v_lent, v_lenr, v_tupt, v_tupr, v_lstt, v_lstr, v_any, v_all, v_ixt, v_ixr, v_seti, v_pts, v_ptn, v_sls, v_slt, v_slr, v_fld, v_setf, v_okl, v_oks, v_app, v_pop, v_lt, v_le, v_gt, v_ge, v_eq, v_ne, v_in, v_ni, v_eqii, v_eqss, v_eqbb, v_eqsi, v_eqis, v_eqni, v_eqin, v_eqns, v_eqsn, v_trn, v_trb, v_tri, v_trt, v_trr, v_trs, v_fms, v_fmi, v_inp, v_inl, v_ins, t_n, t_b, t_i, t_s, t_t, t_r, tyO_1, tyO_2, tyO_3, tyO_4, y_n, y_b, y_i, y_s, y_t, y_l, y_d, y_o, y_o1, y_o2, y_o3, y_o4, y_o5, y_o6, w_t, w_s, w_r, w_e, w_zt, List.map_cons, List.map_nil, List.replicate_succ, List.replicate_zero, List.cons_append, List.nil_append, List.append_nil, List.set_cons_zero, List.set_cons_succ, List.any_cons, List.any_nil, List.lookup_cons_self, meT, reduceCtorEq, decide_true, decide_false, Bool.or_false, Bool.false_or, Bool.or_true, Bool.true_or, Bool.not_true, Bool.not_false, Bool.and_true, Bool.true_and, Bool.and_false, Bool.false_and, true_and, and_true, wipeE, List.getElem?_concat_length]
      refine go_join (ys := ps.map Prod.snd) (seq_l List.getElem?_concat_length) ?_ ?_
      · simp only [List.length_map, List.length_cons, List.length_nil]
        omega
      · exact hq
def sd (ns : List Int) : List D := ns.map D.int
def stx (ns : List Int) : List Nat := TL.joinL [32] (ns.map dg)
theorem dgs_len : ∀ ns : List Int, ((ns.map dg).map List.length).sum = ns.length
  | [] => rfl
  | n :: ns => by
    rw [List.map_cons, List.map_cons, List.sum_cons, dgs_len ns, List.length_cons]
    unfold dg
    simp
    omega
theorem statetext {k : Nat} {ns : List Int} {st : Store} {Q : QE} {X : QX} (h1 : 1 ≤ ns.length) (h6 : ns.length ≤ 6) (hn : ∀ n ∈ ns, 0 ≤ n ∧ n < 9) (hq : ∀ rest, Q (.str (stx ns)) (st ++ rest)) : Call T (k + 3) 13 [.tup (ns.map D.int)] st Q X := by
  refine call_z f_state_text.fn rfl rfl ?_
  show wpB T (Call T (k + 2)) none b_state_text [some (.tup (ns.map D.int)), none] st _
  unfold b_state_text
  have a1 : decide ((1 : Int) ≤ ((ns.map D.int).length : Int)) = true := decide_eq_true (by rw [List.length_map]; omega)
  have a6 : decide (((ns.map D.int).length : Int) ≤ 6) = true := decide_eq_true (by rw [List.length_map]; omega)
  simp (implicitDefEqProofs := false) (dsimp := false) (failIfUnchanged := false) only [lz1, z_ifT, z_ifF, ks_nx, ks_rt, ks_bk, ks_ct, ks_xc, kl_nx, kl_rt, kl_bk, kl_ct, kl_xc, kc_nx, kc_rt, kc_xc, kt_nx, kt_rt, kt_bk, kt_ct, kt_xc, kh_nx, kh_rt, un_n, un_s, isNon_1, isNon_2, isNon_3, isNon_4, isNon_5, isNon_6, isNon_7, boolQ_1, intQ_1, optQ_1, lstQ_1, sqQ_1, sqQ_2, insQ_1, getIx_0, getIx_1, getIx_2, getIx_3, getIx_4, getIx_5, setIx_0, setIx_1, setIx_2, bindQ_nm, bindL_0, bindL_1, bindQ_tp, z_var, z_con, z_glo, z_bin, z_neg, z_cmp, z_chain, z_isN, z_notN, z_and, z_or, z_not, z_ife, z_call, z_make, methQ_1, z_meth, z_fld, z_pr, z_me, z_isi, z_idx, z_sli, z_abs0, z_tup, z_lst, z_fstr, z_efld, z_eisi, z_comp, z_Tcmp, z_Tchain, z_TisN, z_TnotN, z_Tand, z_Tor, z_Tnot, z_Ttv, z_nil, z_cons, z_Fnil, z_Fcons, z_Tsn, z_Ts1, z_rng1, int2Q_1, z_rng2, z_enm, z_zip, z_sq, z_Bnil, z_Bcons, z_asg, z_asgt, z_asg2, z_setf, z_seti, augQ_1, augQ_2, z_augn, z_augf, z_exp, z_ret, z_retN, z_if, z_for, z_whl, z_brk, z_cnt, z_pas, z_rais0, z_rais1, z_try, z_Hnil, z_Hcons, v_v0, v_vs, v_add, v_sub, v_mul, v_fdiv, v_mod, v_pow, v_sadd, v_tadd, v_ladd, v_lmul, v_int, v_intb, v_abs, v_max2, v_min2, v_stri, v_lens, v_lent, v_lenr, v_tupt, v_tupr, v_lstt, v_lstr, v_any, v_all, v_ixt, v_ixr, v_seti, v_pts, v_ptn, v_sls, v_slt, v_slr, v_fld, v_setf, v_okl, v_oks, v_app, v_pop, v_lt, v_le, v_gt, v_ge, v_eq, v_ne, v_in, v_ni, v_eqii, v_eqss, v_eqbb, v_eqsi, v_eqis, v_eqni, v_eqin, v_eqns, v_eqsn, v_trn, v_trb, v_tri, v_trt, v_trr, v_trs, v_fms, v_fmi, v_inp, v_inl, v_ins, t_n, t_b, t_i, t_s, t_t, t_r, tyO_1, tyO_2, tyO_3, tyO_4, y_n, y_b, y_i, y_s, y_t, y_l, y_d, y_o, y_o1, y_o2, y_o3, y_o4, y_o5, y_o6, w_t, w_s, w_r, w_e, w_zt, List.map_cons, List.map_nil, List.replicate_succ, List.replicate_zero, List.cons_append, List.nil_append, List.append_nil, List.set_cons_zero, List.set_cons_succ, List.any_cons, List.any_nil, List.lookup_cons_self, meT, reduceCtorEq, decide_true, decide_false, Bool.or_false, Bool.false_or, Bool.or_true, Bool.true_or, Bool.not_true, Bool.not_false, Bool.and_true, Bool.true_and, Bool.and_false, Bool.false_and, true_and, and_true, wipeE, List.getElem?_concat_length, a1, a6]
  refine for_s (fun r env s => ∃ qs o, r = qs.map D.int ∧ (∀ n ∈ qs, 0 ≤ n ∧ n < 9) ∧ s = st ∧ env = [some (.tup (ns.map D.int)), o]) ⟨ns, none, rfl, hn, rfl, rfl⟩ (fun d r env s N ⟨qs, o, e1, e2, e3, e4⟩ hN => ?_) (fun env s ⟨qs, o, e1, e2, e3, e4⟩ => ?_)
  · subst e3 e4
    cases qs with
    | nil => cases e1
    | cons q qs =>
      cases e1
      simp (implicitDefEqProofs := false) (dsimp := false) (failIfUnchanged := false) only [lz1, z_ifT, z_ifF, ks_nx, ks_rt, ks_bk, ks_ct, ks_xc, kl_nx, kl_rt, kl_bk, kl_ct, kl_xc, kc_nx, kc_rt, kc_xc, kt_nx, kt_rt, kt_bk, kt_ct, kt_xc, kh_nx, kh_rt, un_n, un_s, isNon_1, isNon_2, isNon_3, isNon_4, isNon_5, isNon_6, isNon_7, boolQ_1, intQ_1, optQ_1, lstQ_1, sqQ_1, sqQ_2, insQ_1, getIx_0, getIx_1, getIx_2, getIx_3, getIx_4, getIx_5, setIx_0, setIx_1, setIx_2, bindQ_nm, bindL_0, bindL_1, bindQ_tp, z_var, z_con, z_glo, z_bin, z_neg, z_cmp, z_chain, z_isN, z_notN, z_and, z_or, z_not, z_ife, z_call, z_make, methQ_1, z_meth, z_fld, z_pr, z_me, z_isi, z_idx, z_sli, z_abs0, z_tup, z_lst, z_fstr, z_efld, z_eisi, z_comp, z_Tcmp, z_Tchain, z_TisN, z_TnotN, z_Tand, z_Tor, z_Tnot, z_Ttv, z_nil, z_cons, z_Fnil, z_Fcons, z_Tsn, z_Ts1, z_rng1, int2Q_1, z_rng2, z_enm, z_zip, z_sq, z_Bnil, z_Bcons, z_asg, z_asgt, z_asg2, z_setf, z_seti, augQ_1, augQ_2, z_augn, z_augf, z_exp, z_ret, z_retN, z_if, z_for, z_whl, z_brk, z_cnt, z_pas, z_rais0, z_rais1, z_try, z_Hnil, z_Hcons, v_v0, v_vs, v_add, v_sub, v_mul, v_fdiv, v_mod, v_pow, v_sadd, v_tadd, v_ladd, v_lmul, v_int, v_intb, v_abs, v_max2, v_min2, v_stri, v_lens, v_lent, v_lenr, v_tupt, v_tupr, v_lstt, v_lstr, v_any, v_all, v_ixt, v_ixr, v_seti, v_pts, v_ptn, v_sls, v_slt, v_slr, v_fld, v_setf, v_okl, v_oks, v_app, v_pop, v_lt, v_le, v_gt, v_ge, v_eq, v_ne, v_in, v_ni, v_eqii, v_eqss, v_eqbb, v_eqsi, v_eqis, v_eqni, v_eqin, v_eqns, v_eqsn, v_trn, v_trb, v_tri, v_trt, v_trr, v_trs, v_fms, v_fmi, v_inp, v_inl, v_ins, t_n, t_b, t_i, t_s, t_t, t_r, tyO_1, tyO_2, tyO_3, tyO_4, y_n, y_b, y_i, y_s, y_t, y_l, y_d, y_o, y_o1, y_o2, y_o3, y_o4, y_o5, y_o6, w_t, w_s, w_r, w_e, w_zt, List.map_cons, List.map_nil, List.replicate_succ, List.replicate_zero, List.cons_append, List.nil_append, List.append_nil, List.set_cons_zero, List.set_cons_succ, List.any_cons, List.any_nil, List.lookup_cons_self, meT, reduceCtorEq, decide_true, decide_false, Bool.or_false, Bool.false_or, Bool.or_true, Bool.true_or, Bool.not_true, Bool.not_false, Bool.and_true, Bool.true_and, Bool.and_false, Bool.false_and, true_and, and_true, wipeE, List.getElem?_concat_length, glo1]
      refine small (e2 q List.mem_cons_self).1 (by have := (e2 q List.mem_cons_self).2; omega) ?_
      simp (implicitDefEqProofs := false) (dsimp := false) (failIfUnchanged := false) only [lz1, z_ifT, z_ifF, ks_nx, ks_rt, ks_bk, ks_ct, ks_xc, kl_nx, kl_rt, kl_bk, kl_ct, kl_xc, kc_nx, kc_rt, kc_xc, kt_nx, kt_rt, kt_bk, kt_ct, kt_xc, kh_nx, kh_rt, un_n, un_s, isNon_1, isNon_2, isNon_3, isNon_4, isNon_5, isNon_6, isNon_7, boolQ_1, intQ_1, optQ_1, lstQ_1, sqQ_1, sqQ_2, insQ_1, getIx_0, getIx_1, getIx_2, getIx_3, getIx_4, getIx_5, setIx_0, setIx_1, setIx_2, bindQ_nm, bindL_0, bindL_1, bindQ_tp, z_var, z_con, z_glo, z_bin, z_neg, z_cmp, z_chain, z_isN, z_notN, z_and, z_or, z_not, z_ife, z_call, z_make, methQ_1, z_meth, z_fld, z_pr, z_me, z_isi, z_idx, z_sli, z_abs0, z_tup, z_lst, z_fstr, z_efld, z_eisi, z_comp, z_Tcmp, z_Tchain, z_TisN, z_TnotN, z_Tand, z_Tor, z_Tnot, z_Ttv, z_nil, z_cons, z_Fnil, z_Fcons, z_Tsn, z_Ts1, z_rng1, int2Q_1, z_rng2, z_enm, z_zip, z_sq, z_Bnil, z_Bcons, z_asg, z_asgt, z_asg2, z_setf, z_seti, augQ_1, augQ_2, z_augn, z_augf, z_exp, z_ret, z_retN, z_if, z_for, z_whl, z_brk, z_cnt, z_pas, z_rais0, z_rais1, z_try, z_Hnil, z_Hcons, v_v0, v_vs, v_add, v_sub, v_mul, v_fdiv, v_mod, v_pow, v_sadd, v_tadd, v_ladd, v_lmul, v_int, v_intb, v_abs, v_max2, v_min2, v_stri, v_lens, v_lent, v_lenr, v_tupt, v_tupr, v_lstt, v_lstr, v_any, v_all, v_ixt, v_ixr, v_seti, v_pts, v_ptn, v_sls, v_slt, v_slr, v_fld, v_setf, v_okl, v_oks, v_app, v_pop, v_lt, v_le, v_gt, v_ge, v_eq, v_ne, v_in, v_ni, v_eqii, v_eqss, v_eqbb, v_eqsi, v_eqis, v_eqni, v_eqin, v_eqns, v_eqsn, v_trn, v_trb, v_tri, v_trt, v_trr, v_trs, v_fms, v_fmi, v_inp, v_inl, v_ins, t_n, t_b, t_i, t_s, t_t, t_r, tyO_1, tyO_2, tyO_3, tyO_4, y_n, y_b, y_i, y_s, y_t, y_l, y_d, y_o, y_o1, y_o2, y_o3, y_o4, y_o5, y_o6, w_t, w_s, w_r, w_e, w_zt, List.map_cons, List.map_nil, List.replicate_succ, List.replicate_zero, List.cons_append, List.nil_append, List.append_nil, List.set_cons_zero, List.set_cons_succ, List.any_cons, List.any_nil, List.lookup_cons_self, meT, reduceCtorEq, decide_true, decide_false, Bool.or_false, Bool.false_or, Bool.or_true, Bool.true_or, Bool.not_true, Bool.not_false, Bool.and_true, Bool.true_and, Bool.and_false, Bool.false_and, true_and, and_true, wipeE, List.getElem?_concat_length]
      exact hN _ _ ⟨qs, _, rfl, fun n m => e2 n (List.mem_cons_of_mem _ m), rfl, rfl⟩
  · subst e3 e4
    simp (implicitDefEqProofs := false) (dsimp := false) (failIfUnchanged := false) only [lz1, z_ifT, z_ifF, ks_nx, ks_rt, ks_bk, ks_ct, ks_xc, kl_nx, kl_rt, kl_bk, kl_ct, kl_xc, kc_nx, kc_rt, kc_xc, kt_nx, kt_rt, kt_bk, kt_ct, kt_xc, kh_nx, kh_rt, un_n, un_s, isNon_1, isNon_2, isNon_3, isNon_4, isNon_5, isNon_6, isNon_7, boolQ_1, intQ_1, optQ_1, lstQ_1, sqQ_1, sqQ_2, insQ_1, getIx_0, getIx_1, getIx_2, getIx_3, getIx_4, getIx_5, setIx_0, setIx_1, setIx_2, bindQ_nm, bindL_0, bindL_1, bindQ_tp, z_var, z_con, z_glo, z_bin, z_neg, z_cmp, z_chain, z_isN, z_notN, z_and, z_or, z_not, z_ife, z_call, z_make, methQ_1, z_meth, z_fld, z_pr, z_me, z_isi, z_idx, z_sli, z_abs0, z_tup, z_lst, z_fstr, z_efld, z_eisi, z_comp, z_Tcmp, z_Tchain, z_TisN, z_TnotN, z_Tand, z_Tor, z_Tnot, z_Ttv, z_nil, z_cons, z_Fnil, z_Fcons, z_Tsn, z_Ts1, z_rng1, int2Q_1, z_rng2, z_enm, z_zip, z_sq, z_Bnil, z_Bcons, z_asg, z_asgt, z_asg2, z_setf, z_seti, augQ_1, augQ_2, z_augn, z_augf, z_exp, z_ret, z_retN, z_if, z_for, z_whl, z_brk, z_cnt, z_pas, z_rais0, z_rais1, z_try, z_Hnil, z_Hcons, v_v0, v_vs, v_add, v_sub, v_mul, v_fdiv, v_mod, v_pow, v_sadd, v_tadd, v_ladd, v_lmul, v_int, v_intb, v_abs, v_max2, v_min2, v_stri, v_lens, v_lent, v_lenr, v_tupt, v_tupr, v_lstt, v_lstr, v_any, v_all, v_ixt, v_ixr, v_seti, v_pts, v_ptn, v_sls, v_slt, v_slr, v_fld, v_setf, v_okl, v_oks, v_app, v_pop, v_lt, v_le, v_gt, v_ge, v_eq, v_ne, v_in, v_ni, v_eqii, v_eqss, v_eqbb, v_eqsi, v_eqis, v_eqni, v_eqin, v_eqns, v_eqsn, v_trn, v_trb, v_tri, v_trt, v_trr, v_trs, v_fms, v_fmi, v_inp, v_inl, v_ins, t_n, t_b, t_i, t_s, t_t, t_r, tyO_1, tyO_2, tyO_3, tyO_4, y_n, y_b, y_i, y_s, y_t, y_l, y_d, y_o, y_o1, y_o2, y_o3, y_o4, y_o5, y_o6, w_t, w_s, w_r, w_e, w_zt, List.map_cons, List.map_nil, List.replicate_succ, List.replicate_zero, List.cons_append, List.nil_append, List.append_nil, List.set_cons_zero, List.set_cons_succ, List.any_cons, List.any_nil, List.lookup_cons_self, meT, reduceCtorEq, decide_true, decide_false, Bool.or_false, Bool.false_or, Bool.or_true, Bool.true_or, Bool.not_true, Bool.not_false, Bool.and_true, Bool.true_and, Bool.and_false, Bool.false_and, true_and, and_true, wipeE, List.getElem?_concat_length]
    refine cmp_s (fun r acc s' => ∃ done qs, ns = done ++ qs ∧ r = qs.map D.int ∧ acc = (done.map dg).map D.str ∧ s' = s ++ [.lst acc]) ⟨[], ns, rfl, rfl, rfl, rfl⟩ (fun d r acc s' N ⟨done, qs, e1, e2, e3, e4⟩ hN => ?_) (fun acc s' ⟨done, qs, e1, e2, e3, e4⟩ => ?_)
    · subst e4
      cases qs with
      | nil => cases e2
      | cons q qs =>
        cases e2
        have q1 := hn q (by rw [e1]; simp)
        simp (implicitDefEqProofs := false) (dsimp := false) (failIfUnchanged := false) only [lz1, z_ifT, z_ifF, ks_nx, ks_rt, ks_bk, ks_ct, ks_xc, kl_nx, kl_rt, kl_bk, kl_ct, kl_xc, kc_nx, kc_rt, kc_xc, kt_nx, kt_rt, kt_bk, kt_ct, kt_xc, kh_nx, kh_rt, un_n, un_s, isNon_1, isNon_2, isNon_3, isNon_4, isNon_5, isNon_6, isNon_7, boolQ_1, intQ_1, optQ_1, lstQ_1, sqQ_1, sqQ_2, insQ_1, getIx_0, getIx_1, getIx_2, getIx_3, getIx_4, getIx_5, setIx_0, setIx_1, setIx_2, bindQ_nm, bindL_0, bindL_1, bindQ_tp, z_var, z_con, z_glo, z_bin, z_neg, z_cmp, z_chain, z_isN, z_notN, z_and, z_or, z_not, z_ife, z_call, z_make, methQ_1, z_meth, z_fld, z_pr, z_me, z_isi, z_idx, z_sli, z_abs0, z_tup, z_lst, z_fstr, z_efld, z_eisi, z_comp, z_Tcmp, z_Tchain, z_TisN, z_TnotN, z_Tand, z_Tor, z_Tnot, z_Ttv, z_nil, z_cons, z_Fnil, z_Fcons, z_Tsn, z_Ts1, z_rng1, int2Q_1, z_rng2, z_enm, z_zip, z_sq, z_Bnil, z_Bcons, z_asg, z_asgt, z_asg2, z_setf, z_seti, augQ_1, augQ_2, z_augn, z_augf, z_exp, z_ret, z_retN, z_if, z_for, z_whl, z_brk, z_cnt, z_pas, z_rais0, z_rais1, z_try, z_Hnil, z_Hcons, v_v0, v_vs, v_add, v_sub, v_mul, v_fdiv, v_mod, v_pow, v_sadd, v_tadd, v_ladd, v_lmul, v_int, v_intb, v_abs, v_max2, v_min2, v_stri, v_lens, v_lent, v_lenr, v_tupt, v_tupr, v_lstt, v_lstr, v_any, v_all, v_ixt, v_ixr, v_seti, v_pts, v_ptn, v_sls, v_slt, v_slr, v_fld, v_setf, v_okl, v_oks, v_app, v_pop, v_lt, v_le, v_gt, v_ge, v_eq, v_ne, v_in, v_ni, v_eqii, v_eqss, v_eqbb, v_eqsi, v_eqis, v_eqni, v_eqin, v_eqns, v_eqsn, v_trn, v_trb, v_tri, v_trt, v_trr, v_trs, v_fms, v_fmi, v_inp, v_inl, v_ins, t_n, t_b, t_i, t_s, t_t, t_r, tyO_1, tyO_2, tyO_3, tyO_4, y_n, y_b, y_i, y_s, y_t, y_l, y_d, y_o, y_o1, y_o2, y_o3, y_o4, y_o5, y_o6, w_t, w_s, w_r, w_e, w_zt, List.map_cons, List.map_nil, List.replicate_succ, List.replicate_zero, List.cons_append, List.nil_append, List.append_nil, List.set_cons_zero, List.set_cons_succ, List.any_cons, List.any_nil, List.lookup_cons_self, meT, reduceCtorEq, decide_true, decide_false, Bool.or_false, Bool.false_or, Bool.or_true, Bool.true_or, Bool.not_true, Bool.not_false, Bool.and_true, Bool.true_and, Bool.and_false, Bool.false_and, true_and, and_true, wipeE, List.getElem?_concat_length]
        refine ⟨log_ok q1.1 q1.2, ?_⟩
        rw [dec_dg q1.1 q1.2]
        simp (implicitDefEqProofs := false) (dsimp := false) (failIfUnchanged := false) only [lz1, z_ifT, z_ifF, ks_nx, ks_rt, ks_bk, ks_ct, ks_xc, kl_nx, kl_rt, kl_bk, kl_ct, kl_xc, kc_nx, kc_rt, kc_xc, kt_nx, kt_rt, kt_bk, kt_ct, kt_xc, kh_nx, kh_rt, un_n, un_s, isNon_1, isNon_2, isNon_3, isNon_4, isNon_5, isNon_6, isNon_7, boolQ_1, intQ_1, optQ_1, lstQ_1, sqQ_1, sqQ_2, insQ_1, getIx_0, getIx_1, getIx_2, getIx_3, getIx_4, getIx_5, setIx_0, setIx_1, setIx_2, bindQ_nm, bindL_0, bindL_1, bindQ_tp, z_var, z_con, z_glo, z_bin, z_neg, z_cmp, z_chain, z_isN, z_notN, z_and, z_or, z_not, z_ife, z_call, z_make, methQ_1, z_meth, z_fld, z_pr, z_me, z_isi, z_idx, z_sli, z_abs0, z_tup, z_lst, z_fstr, z_efld, z_eisi, z_comp, z_Tcmp, z_Tchain, z_TisN, z_TnotN, z_Tand, z_Tor, z_Tnot, z_Ttv, z_nil, z_cons, z_Fnil, z_Fcons, z_Tsn, z_Ts1, z_rng1, int2Q_1, z_rng2, z_enm, z_zip, z_sq, z_Bnil, z_Bcons, z_asg, z_asgt, z_asg2, z_setf, z_seti, augQ_1, augQ_2, z_augn, z_augf, z_exp, z_ret, z_retN, z_if, z_for, z_whl, z_brk, z_cnt, z_pas, z_rais0, z_rais1, z_try, z_Hnil, z_Hcons, v_v0, v_vs, v_add, v_sub, v_mul, v_fdiv, v_mod, v_pow, v_sadd, v_tadd, v_ladd, v_lmul, v_int, v_intb, v_abs, v_max2, v_min2, v_stri, v_lens, v_lent, v_lenr, v_tupt, v_tupr, v_lstt, v_lstr, v_any, v_all, v_ixt, v_ixr, v_seti, v_pts, v_ptn, v_sls, v_slt, v_slr, v_fld, v_setf, v_okl, v_oks, v_app, v_pop, v_lt, v_le, v_gt, v_ge, v_eq, v_ne, v_in, v_ni, v_eqii, v_eqss, v_eqbb, v_eqsi, v_eqis, v_eqni, v_eqin, v_eqns, v_eqsn, v_trn, v_trb, v_tri, v_trt, v_trr, v_trs, v_fms, v_fmi, v_inp, v_inl, v_ins, t_n, t_b, t_i, t_s, t_t, t_r, tyO_1, tyO_2, tyO_3, tyO_4, y_n, y_b, y_i, y_s, y_t, y_l, y_d, y_o, y_o1, y_o2, y_o3, y_o4, y_o5, y_o6, w_t, w_s, w_r, w_e, w_zt, List.map_cons, List.map_nil, List.replicate_succ, List.replicate_zero, List.cons_append, List.nil_append, List.append_nil, List.set_cons_zero, List.set_cons_succ, List.any_cons, List.any_nil, List.lookup_cons_self, meT, reduceCtorEq, decide_true, decide_false, Bool.or_false, Bool.false_or, Bool.or_true, Bool.true_or, Bool.not_true, Bool.not_false, Bool.and_true, Bool.true_and, Bool.and_false, Bool.false_and, true_and, and_true, wipeE, List.getElem?_concat_length]
        refine ⟨Nat.lt_of_le_of_lt (show _ ≤ 1000 by rw [e3]; have := congrArg List.length e1; simp at this ⊢; omega) (by decide), ?_⟩
        refine hN _ _ ⟨done ++ [q], qs, join_snoc e1, rfl, ?_, set_last _ _ _⟩
        rw [e3]
        simp
    · subst e4
      cases qs with
      | cons q qs => cases e2
      | nil =>
        rw [List.append_nil] at e1
        subst e1 e3
        simp (implicitDefEqProofs := false) (dsimp := false) (failIfUnchanged := false) only [lz1, z_ifT, z_ifF, ks_nx, ks_rt, ks_bk, ks_ct, ks_xc, kl_nx, kl_rt, kl_bk, kl_ct, kl_xc, kc_nx, kc_rt, kc_xc, kt_nx, kt_rt, kt_bk, kt_ct, kt_xc, kh_nx, kh_rt, un_n, un_s, isNon_1, isNon_2, isNon_3, isNon_4, isNon_5, isNon_6, isNon_7, boolQ_1, intQ_1, optQ_1, lstQ_1, sqQ_1, sqQ_2, insQ_1, getIx_0, getIx_1, getIx_2, getIx_3, getIx_4, getIx_5, setIx_0, setIx_1, setIx_2, bindQ_nm, bindL_0, bindL_1, bindQ_tp, z_var, z_con, z_glo, z_bin, z_neg, z_cmp, z_chain, z_isN, z_notN, z_and, z_or, z_not, z_ife, z_call, z_make, methQ_1, z_meth, z_fld, z_pr, z_me, z_isi, z_idx, z_sli, z_abs0, z_tup, z_lst, z_fstr, z_efld, z_eisi, z_comp, z_Tcmp, z_Tchain, z_TisN, z_TnotN, z_Tand, z_Tor, z_Tnot, z_Ttv, z_nil, z_cons, z_Fnil, z_Fcons, z_Tsn, z_Ts1, z_rng1, int2Q_1, z_rng2, z_enm, z_zip, z_sq, z_Bnil, z_Bcons, z_asg, z_asgt, z_asg2, z_setf, z_seti, augQ_1, augQ_2, z_augn, z_augf, z_exp, z_ret, z_retN, z_if, z_for, z_whl, z_brk, z_cnt, z_pas, z_rais0, z_rais1, z_try, z_Hnil, z_Hcons, v_v0, v_vs, v_add, v_sub, v_mul, v_fdiv, v_mod, v_pow, v_sadd, v_tadd, v_ladd, v_lmul, v_int, v_intb, v_abs, v_max2, v_min2, v_stri, v_lens, v_lent, v_lenr, v_tupt, v_tupr, v_lstt, v_lstr, v_any, v_all, v_ixt, v_ixr, v_seti, v_pts, v_ptn, v_sls, v_slt, v_slr, v_fld, v_setf, v_okl, v_oks, v_app, v_pop, v_lt, v_le, v_gt, v_ge, v_eq, v_ne, v_in, v_ni, v_eqii, v_eqss, v_eqbb, v_eqsi, v_eqis, v_eqni, v_eqin, v_eqns, v_eqsn, v_trn, v_trb, v_tri, v_trt, v_trr, v_trs, v_fms, v_fmi, v_inp, v_inl, v_ins, t_n, t_b, t_i, t_s, t_t, t_r, tyO_1, tyO_2, tyO_3, tyO_4, y_n, y_b, y_i, y_s, y_t, y_l, y_d, y_o, y_o1, y_o2, y_o3, y_o4, y_o5, y_o6, w_t, w_s, w_r, w_e, w_zt, List.map_cons, List.map_nil, List.replicate_succ, List.replicate_zero, List.cons_append, List.nil_append, List.append_nil, List.set_cons_zero, List.set_cons_succ, List.any_cons, List.any_nil, List.lookup_cons_self, meT, reduceCtorEq, decide_true, decide_false, Bool.or_false, Bool.false_or, Bool.or_true, Bool.true_or, Bool.not_true, Bool.not_false, Bool.and_true, Bool.true_and, Bool.and_false, Bool.false_and, true_and, and_true, wipeE, List.getElem?_concat_length]
        refine go_join (ys := ns.map dg) (seq_l List.getElem?_concat_length) ?_ ?_
        · rw [dgs_len]
          simp
          omega
        · simp (implicitDefEqProofs := false) (dsimp := false) (failIfUnchanged := false) only [lz1, z_ifT, z_ifF, ks_nx, ks_rt, ks_bk, ks_ct, ks_xc, kl_nx, kl_rt, kl_bk, kl_ct, kl_xc, kc_nx, kc_rt, kc_xc, kt_nx, kt_rt, kt_bk, kt_ct, kt_xc, kh_nx, kh_rt, un_n, un_s, isNon_1, isNon_2, isNon_3, isNon_4, isNon_5, isNon_6, isNon_7, boolQ_1, intQ_1, optQ_1, lstQ_1, sqQ_1, sqQ_2, insQ_1, getIx_0, getIx_1, getIx_2, getIx_3, getIx_4, getIx_5, setIx_0, setIx_1, setIx_2, bindQ_nm, bindL_0, bindL_1, bindQ_tp, z_var, z_con, z_glo, z_bin, z_neg, z_cmp, z_chain, z_isN, z_notN, z_and, z_or, z_not, z_ife, z_call, z_make, methQ_1, z_meth, z_fld, z_pr, z_me, z_isi, z_idx, z_sli, z_abs0, z_tup, z_lst, z_fstr, z_efld, z_eisi, z_comp, z_Tcmp, z_Tchain, z_TisN, z_TnotN, z_Tand, z_Tor, z_Tnot, z_Ttv, z_nil, z_cons, z_Fnil, z_Fcons, z_Tsn, z_Ts1, z_rng1, int2Q_1, z_rng2, z_enm, z_zip, z_sq, z_Bnil, z_Bcons, z_asg, z_asgt, z_asg2, z_setf, z_seti, augQ_1, augQ_2, z_augn, z_augf, z_exp, z_ret, z_retN, z_if, z_for, z_whl, z_brk, z_cnt, z_pas, z_rais0, z_rais1, z_try, z_Hnil, z_Hcons, v_v0, v_vs, v_add, v_sub, v_mul, v_fdiv, v_mod, v_pow, v_sadd, v_tadd, v_ladd, v_lmul, v_int, v_intb, v_abs, v_max2, v_min2, v_stri, v_lens, v_lent, v_lenr, v_tupt, v_tupr, v_lstt, v_lstr, v_any, v_all, v_ixt, v_ixr, v_seti, v_pts, v_ptn, v_sls, v_slt, v_slr, v_fld, v_setf, v_okl, v_oks, v_app, v_pop, v_lt, v_le, v_gt, v_ge, v_eq, v_ne, v_in, v_ni, v_eqii, v_eqss, v_eqbb, v_eqsi, v_eqis, v_eqni, v_eqin, v_eqns, v_eqsn, v_trn, v_trb, v_tri, v_trt, v_trr, v_trs, v_fms, v_fmi, v_inp, v_inl, v_ins, t_n, t_b, t_i, t_s, t_t, t_r, tyO_1, tyO_2, tyO_3, tyO_4, y_n, y_b, y_i, y_s, y_t, y_l, y_d, y_o, y_o1, y_o2, y_o3, y_o4, y_o5, y_o6, w_t, w_s, w_r, w_e, w_zt, List.map_cons, List.map_nil, List.replicate_succ, List.replicate_zero, List.cons_append, List.nil_append, List.append_nil, List.set_cons_zero, List.set_cons_succ, List.any_cons, List.any_nil, List.lookup_cons_self, meT, reduceCtorEq, decide_true, decide_false, Bool.or_false, Bool.false_or, Bool.or_true, Bool.true_or, Bool.not_true, Bool.not_false, Bool.and_true, Bool.true_and, Bool.and_false, Bool.false_and, true_and, and_true, wipeE, List.getElem?_concat_length]
          exact hq _
theorem stx_len (ns : List Int) : (stx ns).length ≤ 2 * ns.length := by
  have := joinL_len [32] (ns.map dg)
  rw [dgs_len] at this
  unfold stx
  simp at this
  omega
theorem readstate {k : Nat} {ns : List Int} {st : Store} {Q : QE} {X : QX} (h1 : 1 ≤ ns.length) (h6 : ns.length ≤ 6) (hn : ∀ n ∈ ns, 0 ≤ n ∧ n < 9) (hq : ∀ rest, Q (.tup (ns.map D.int)) (st ++ rest)) : Call T (k + 1) 14 [.str (stx ns)] st Q X := by
  refine call_z f_read_state.fn rfl rfl ?_
  show wpB T (Call T k) none b_read_state [some (.str (stx ns)), none, none] st _
  unfold b_read_state
  have sl := stx_len ns
  generalize ht : stx ns = t at sl
  simp (implicitDefEqProofs := false) (dsimp := false) (failIfUnchanged := false) only [lz1, z_ifT, z_ifF, ks_nx, ks_rt, ks_bk, ks_ct, ks_xc, kl_nx, kl_rt, kl_bk, kl_ct, kl_xc, kc_nx, kc_rt, kc_xc, kt_nx, kt_rt, kt_bk, kt_ct, kt_xc, kh_nx, kh_rt, un_n, un_s, isNon_1, isNon_2, isNon_3, isNon_4, isNon_5, isNon_6, isNon_7, boolQ_1, intQ_1, optQ_1, lstQ_1, sqQ_1, sqQ_2, insQ_1, getIx_0, getIx_1, getIx_2, getIx_3, getIx_4, getIx_5, setIx_0, setIx_1, setIx_2, bindQ_nm, bindL_0, bindL_1, bindQ_tp, z_var, z_con, z_glo, z_bin, z_neg, z_cmp, z_chain, z_isN, z_notN, z_and, z_or, z_not, z_ife, z_call, z_make, methQ_1, z_meth, z_fld, z_pr, z_me, z_isi, z_idx, z_sli, z_abs0, z_tup, z_lst, z_fstr, z_efld, z_eisi, z_comp, z_Tcmp, z_Tchain, z_TisN, z_TnotN, z_Tand, z_Tor, z_Tnot, z_Ttv, z_nil, z_cons, z_Fnil, z_Fcons, z_Tsn, z_Ts1, z_rng1, int2Q_1, z_rng2, z_enm, z_zip, z_sq, z_Bnil, z_Bcons, z_asg, z_asgt, z_asg2, z_setf, z_seti, augQ_1, augQ_2, z_augn, z_augf, z_exp, z_ret, z_retN, z_if, z_for, z_whl, z_brk, z_cnt, z_pas, z_rais0, z_rais1, z_try, z_Hnil, z_Hcons, v_v0, v_vs, v_add, v_sub, v_mul, v_fdiv, v_mod, v_pow, v_sadd, v_tadd, v_ladd, v_lmul, v_int, v_intb, v_abs, v_max2, v_min2, v_stri, v_lens, v_lent, v_lenr, v_tupt, v_tupr, v_lstt, v_lstr, v_any, v_all, v_ixt, v_ixr, v_seti, v_pts, v_ptn, v_sls, v_slt, v_slr, v_fld, v_setf, v_okl, v_oks, v_app, v_pop, v_lt, v_le, v_gt, v_ge, v_eq, v_ne, v_in, v_ni, v_eqii, v_eqss, v_eqbb, v_eqsi, v_eqis, v_eqni, v_eqin, v_eqns, v_eqsn, v_trn, v_trb, v_tri, v_trt, v_trr, v_trs, v_fms, v_fmi, v_inp, v_inl, v_ins, t_n, t_b, t_i, t_s, t_t, t_r, tyO_1, tyO_2, tyO_3, tyO_4, y_n, y_b, y_i, y_s, y_t, y_l, y_d, y_o, y_o1, y_o2, y_o3, y_o4, y_o5, y_o6, w_t, w_s, w_r, w_e, w_zt, List.map_cons, List.map_nil, List.replicate_succ, List.replicate_zero, List.cons_append, List.nil_append, List.append_nil, List.set_cons_zero, List.set_cons_succ, List.any_cons, List.any_nil, List.lookup_cons_self, meT, reduceCtorEq, decide_true, decide_false, Bool.or_false, Bool.false_or, Bool.or_true, Bool.true_or, Bool.not_true, Bool.not_false, Bool.and_true, Bool.true_and, Bool.and_false, Bool.false_and, true_and, and_true, wipeE, List.getElem?_concat_length]
  subst ht
  refine go_split (by decide) (by cases ns <;> simp at h1 ⊢) (fun p hp => ?_) (big (by show (stx ns).length + 2 ≤ _; omega)) ?_
  · obtain ⟨n, _, rfl⟩ := List.mem_map.mp hp
    exact no32d
  generalize stx ns = tx
  have a6 : decide ((6 : Int) < (((ns.map dg).map D.str).length : Int)) = false := decide_eq_false (by rw [List.length_map, List.length_map]; omega)
  simp (implicitDefEqProofs := false) (dsimp := false) (failIfUnchanged := false) only [lz1, z_ifT, z_ifF, ks_nx, ks_rt, ks_bk, ks_ct, ks_xc, kl_nx, kl_rt, kl_bk, kl_ct, kl_xc, kc_nx, kc_rt, kc_xc, kt_nx, kt_rt, kt_bk, kt_ct, kt_xc, kh_nx, kh_rt, un_n, un_s, isNon_1, isNon_2, isNon_3, isNon_4, isNon_5, isNon_6, isNon_7, boolQ_1, intQ_1, optQ_1, lstQ_1, sqQ_1, sqQ_2, insQ_1, getIx_0, getIx_1, getIx_2, getIx_3, getIx_4, getIx_5, setIx_0, setIx_1, setIx_2, bindQ_nm, bindL_0, bindL_1, bindQ_tp, z_var, z_con, z_glo, z_bin, z_neg, z_cmp, z_chain, z_isN, z_notN, z_and, z_or, z_not, z_ife, z_call, z_make, methQ_1, z_meth, z_fld, z_pr, z_me, z_isi, z_idx, z_sli, z_abs0, z_tup, z_lst, z_fstr, z_efld, z_eisi, z_comp, z_Tcmp, z_Tchain, z_TisN, z_TnotN, z_Tand, z_Tor, z_Tnot, z_Ttv, z_nil, z_cons, z_Fnil, z_Fcons, z_Tsn, z_Ts1, z_rng1, int2Q_1, z_rng2, z_enm, z_zip, z_sq, z_Bnil, z_Bcons, z_asg, z_asgt, z_asg2, z_setf, z_seti, augQ_1, augQ_2, z_augn, z_augf, z_exp, z_ret, z_retN, z_if, z_for, z_whl, z_brk, z_cnt, z_pas, z_rais0, z_rais1, z_try, z_Hnil, z_Hcons, v_v0, v_vs, v_add, v_sub, v_mul, v_fdiv, v_mod, v_pow, v_sadd, v_tadd, v_ladd, v_lmul, v_int, v_intb, v_abs, v_max2, v_min2, v_stri, v_lens, v_lent, v_lenr, v_tupt, v_tupr, v_lstt, v_lstr, v_any, v_all, v_ixt, v_ixr, v_seti, v_pts, v_ptn, v_sls, v_slt, v_slr, v_fld, v_setf, v_okl, v_oks, v_app, v_pop, v_lt, v_le, v_gt, v_ge, v_eq, v_ne, v_in, v_ni, v_eqii, v_eqss, v_eqbb, v_eqsi, v_eqis, v_eqni, v_eqin, v_eqns, v_eqsn, v_trn, v_trb, v_tri, v_trt, v_trr, v_trs, v_fms, v_fmi, v_inp, v_inl, v_ins, t_n, t_b, t_i, t_s, t_t, t_r, tyO_1, tyO_2, tyO_3, tyO_4, y_n, y_b, y_i, y_s, y_t, y_l, y_d, y_o, y_o1, y_o2, y_o3, y_o4, y_o5, y_o6, w_t, w_s, w_r, w_e, w_zt, List.map_cons, List.map_nil, List.replicate_succ, List.replicate_zero, List.cons_append, List.nil_append, List.append_nil, List.set_cons_zero, List.set_cons_succ, List.any_cons, List.any_nil, List.lookup_cons_self, meT, reduceCtorEq, decide_true, decide_false, Bool.or_false, Bool.false_or, Bool.or_true, Bool.true_or, Bool.not_true, Bool.not_false, Bool.and_true, Bool.true_and, Bool.and_false, Bool.false_and, true_and, and_true, wipeE, List.getElem?_concat_length, a6]
  refine for_l (ds := (ns.map dg).map D.str) (fun r env s => ∃ qs o, r = (qs.map dg).map D.str ∧ (∀ n ∈ qs, 0 ≤ n ∧ n < 9) ∧ s = st ++ [.lst ((ns.map dg).map D.str)] ∧ env = [some (.str tx), some (.ref st.length), o]) ⟨ns, none, rfl, hn, rfl, rfl⟩ (fun r env s ⟨qs, o, e1, e2, e3, e4⟩ => ?_) (fun d r env s N ⟨qs, o, e1, e2, e3, e4⟩ hN => ?_) (fun env s ⟨qs, o, e1, e2, e3, e4⟩ => ?_)
  · subst e3
    rw [List.getElem?_concat_length]
    rfl
  · subst e3 e4
    cases qs with
    | nil => cases e1
    | cons q qs =>
      cases e1
      have q1 := e2 q List.mem_cons_self
      simp (implicitDefEqProofs := false) (dsimp := false) (failIfUnchanged := false) only [lz1, z_ifT, z_ifF, ks_nx, ks_rt, ks_bk, ks_ct, ks_xc, kl_nx, kl_rt, kl_bk, kl_ct, kl_xc, kc_nx, kc_rt, kc_xc, kt_nx, kt_rt, kt_bk, kt_ct, kt_xc, kh_nx, kh_rt, un_n, un_s, isNon_1, isNon_2, isNon_3, isNon_4, isNon_5, isNon_6, isNon_7, boolQ_1, intQ_1, optQ_1, lstQ_1, sqQ_1, sqQ_2, insQ_1, getIx_0, getIx_1, getIx_2, getIx_3, getIx_4, getIx_5, setIx_0, setIx_1, setIx_2, bindQ_nm, bindL_0, bindL_1, bindQ_tp, z_var, z_con, z_glo, z_bin, z_neg, z_cmp, z_chain, z_isN, z_notN, z_and, z_or, z_not, z_ife, z_call, z_make, methQ_1, z_meth, z_fld, z_pr, z_me, z_isi, z_idx, z_sli, z_abs0, z_tup, z_lst, z_fstr, z_efld, z_eisi, z_comp, z_Tcmp, z_Tchain, z_TisN, z_TnotN, z_Tand, z_Tor, z_Tnot, z_Ttv, z_nil, z_cons, z_Fnil, z_Fcons, z_Tsn, z_Ts1, z_rng1, int2Q_1, z_rng2, z_enm, z_zip, z_sq, z_Bnil, z_Bcons, z_asg, z_asgt, z_asg2, z_setf, z_seti, augQ_1, augQ_2, z_augn, z_augf, z_exp, z_ret, z_retN, z_if, z_for, z_whl, z_brk, z_cnt, z_pas, z_rais0, z_rais1, z_try, z_Hnil, z_Hcons, v_v0, v_vs, v_add, v_sub, v_mul, v_fdiv, v_mod, v_pow, v_sadd, v_tadd, v_ladd, v_lmul, v_int, v_intb, v_abs, v_max2, v_min2, v_stri, v_lens, v_lent, v_lenr, v_tupt, v_tupr, v_lstt, v_lstr, v_any, v_all, v_ixt, v_ixr, v_seti, v_pts, v_ptn, v_sls, v_slt, v_slr, v_fld, v_setf, v_okl, v_oks, v_app, v_pop, v_lt, v_le, v_gt, v_ge, v_eq, v_ne, v_in, v_ni, v_eqii, v_eqss, v_eqbb, v_eqsi, v_eqis, v_eqni, v_eqin, v_eqns, v_eqsn, v_trn, v_trb, v_tri, v_trt, v_trr, v_trs, v_fms, v_fmi, v_inp, v_inl, v_ins, t_n, t_b, t_i, t_s, t_t, t_r, tyO_1, tyO_2, tyO_3, tyO_4, y_n, y_b, y_i, y_s, y_t, y_l, y_d, y_o, y_o1, y_o2, y_o3, y_o4, y_o5, y_o6, w_t, w_s, w_r, w_e, w_zt, List.map_cons, List.map_nil, List.replicate_succ, List.replicate_zero, List.cons_append, List.nil_append, List.append_nil, List.set_cons_zero, List.set_cons_succ, List.any_cons, List.any_nil, List.lookup_cons_self, meT, reduceCtorEq, decide_true, decide_false, Bool.or_false, Bool.false_or, Bool.or_true, Bool.true_or, Bool.not_true, Bool.not_false, Bool.and_true, Bool.true_and, Bool.and_false, Bool.false_and, true_and, and_true, wipeE, List.getElem?_concat_length, glo2, in_held q1.1 q1.2]
      refine ⟨rfl, by decide +kernel, ?_⟩
      exact hN _ _ ⟨qs, _, rfl, fun n m => e2 n (List.mem_cons_of_mem _ m), rfl, rfl⟩
  · subst e3 e4
    have e9 : ∀ (a b : O), (st ++ [a] ++ [b])[st.length]? = some a := fun a b => by simp
    have e8 : ∀ (a b : O), (st ++ [a] ++ [b])[(st ++ [a]).length]? = some b := fun a b => List.getElem?_concat_length
    simp (implicitDefEqProofs := false) (dsimp := false) (failIfUnchanged := false) only [lz1, z_ifT, z_ifF, ks_nx, ks_rt, ks_bk, ks_ct, ks_xc, kl_nx, kl_rt, kl_bk, kl_ct, kl_xc, kc_nx, kc_rt, kc_xc, kt_nx, kt_rt, kt_bk, kt_ct, kt_xc, kh_nx, kh_rt, un_n, un_s, isNon_1, isNon_2, isNon_3, isNon_4, isNon_5, isNon_6, isNon_7, boolQ_1, intQ_1, optQ_1, lstQ_1, sqQ_1, sqQ_2, insQ_1, getIx_0, getIx_1, getIx_2, getIx_3, getIx_4, getIx_5, setIx_0, setIx_1, setIx_2, bindQ_nm, bindL_0, bindL_1, bindQ_tp, z_var, z_con, z_glo, z_bin, z_neg, z_cmp, z_chain, z_isN, z_notN, z_and, z_or, z_not, z_ife, z_call, z_make, methQ_1, z_meth, z_fld, z_pr, z_me, z_isi, z_idx, z_sli, z_abs0, z_tup, z_lst, z_fstr, z_efld, z_eisi, z_comp, z_Tcmp, z_Tchain, z_TisN, z_TnotN, z_Tand, z_Tor, z_Tnot, z_Ttv, z_nil, z_cons, z_Fnil, z_Fcons, z_Tsn, z_Ts1, z_rng1, int2Q_1, z_rng2, z_enm, z_zip, z_sq, z_Bnil, z_Bcons, z_asg, z_asgt, z_asg2, z_setf, z_seti, augQ_1, augQ_2, z_augn, z_augf, z_exp, z_ret, z_retN, z_if, z_for, z_whl, z_brk, z_cnt, z_pas, z_rais0, z_rais1, z_try, z_Hnil, z_Hcons, v_v0, v_vs, v_add, v_sub, v_mul, v_fdiv, v_mod, v_pow, v_sadd, v_tadd, v_ladd, v_lmul, v_int, v_intb, v_abs, v_max2, v_min2, v_stri, v_lens, v_lent, v_lenr, v_tupt, v_tupr, v_lstt, v_lstr, v_any, v_all, v_ixt, v_ixr, v_seti, v_pts, v_ptn, v_sls, v_slt, v_slr, v_fld, v_setf, v_okl, v_oks, v_app, v_pop, v_lt, v_le, v_gt, v_ge, v_eq, v_ne, v_in, v_ni, v_eqii, v_eqss, v_eqbb, v_eqsi, v_eqis, v_eqni, v_eqin, v_eqns, v_eqsn, v_trn, v_trb, v_tri, v_trt, v_trr, v_trs, v_fms, v_fmi, v_inp, v_inl, v_ins, t_n, t_b, t_i, t_s, t_t, t_r, tyO_1, tyO_2, tyO_3, tyO_4, y_n, y_b, y_i, y_s, y_t, y_l, y_d, y_o, y_o1, y_o2, y_o3, y_o4, y_o5, y_o6, w_t, w_s, w_r, w_e, w_zt, List.map_cons, List.map_nil, List.replicate_succ, List.replicate_zero, List.cons_append, List.nil_append, List.append_nil, List.set_cons_zero, List.set_cons_succ, List.any_cons, List.any_nil, List.lookup_cons_self, meT, reduceCtorEq, decide_true, decide_false, Bool.or_false, Bool.false_or, Bool.or_true, Bool.true_or, Bool.not_true, Bool.not_false, Bool.and_true, Bool.true_and, Bool.and_false, Bool.false_and, true_and, and_true, wipeE, List.getElem?_concat_length]
    refine cmp_l (ds := (ns.map dg).map D.str) (fun r acc s' => ∃ done qs, ns = done ++ qs ∧ r = (qs.map dg).map D.str ∧ acc = done.map D.int ∧ s' = st ++ [.lst ((ns.map dg).map D.str)] ++ [.lst acc]) ⟨[], ns, rfl, rfl, rfl, rfl⟩ (fun r acc s' ⟨done, qs, e1, e2, e3, e4⟩ => ?_) (fun d r acc s' N ⟨done, qs, e1, e2, e3, e4⟩ hN => ?_) (fun acc s' ⟨done, qs, e1, e2, e3, e4⟩ => ?_)
    · subst e4
      rw [e9]
      rfl
    · subst e4
      cases qs with
      | nil => cases e2
      | cons q qs =>
        cases e2
        have q1 := hn q (by rw [e1]; simp)
        simp (implicitDefEqProofs := false) (dsimp := false) (failIfUnchanged := false) only [lz1, z_ifT, z_ifF, ks_nx, ks_rt, ks_bk, ks_ct, ks_xc, kl_nx, kl_rt, kl_bk, kl_ct, kl_xc, kc_nx, kc_rt, kc_xc, kt_nx, kt_rt, kt_bk, kt_ct, kt_xc, kh_nx, kh_rt, un_n, un_s, isNon_1, isNon_2, isNon_3, isNon_4, isNon_5, isNon_6, isNon_7, boolQ_1, intQ_1, optQ_1, lstQ_1, sqQ_1, sqQ_2, insQ_1, getIx_0, getIx_1, getIx_2, getIx_3, getIx_4, getIx_5, setIx_0, setIx_1, setIx_2, bindQ_nm, bindL_0, bindL_1, bindQ_tp, z_var, z_con, z_glo, z_bin, z_neg, z_cmp, z_chain, z_isN, z_notN, z_and, z_or, z_not, z_ife, z_call, z_make, methQ_1, z_meth, z_fld, z_pr, z_me, z_isi, z_idx, z_sli, z_abs0, z_tup, z_lst, z_fstr, z_efld, z_eisi, z_comp, z_Tcmp, z_Tchain, z_TisN, z_TnotN, z_Tand, z_Tor, z_Tnot, z_Ttv, z_nil, z_cons, z_Fnil, z_Fcons, z_Tsn, z_Ts1, z_rng1, int2Q_1, z_rng2, z_enm, z_zip, z_sq, z_Bnil, z_Bcons, z_asg, z_asgt, z_asg2, z_setf, z_seti, augQ_1, augQ_2, z_augn, z_augf, z_exp, z_ret, z_retN, z_if, z_for, z_whl, z_brk, z_cnt, z_pas, z_rais0, z_rais1, z_try, z_Hnil, z_Hcons, v_v0, v_vs, v_add, v_sub, v_mul, v_fdiv, v_mod, v_pow, v_sadd, v_tadd, v_ladd, v_lmul, v_int, v_intb, v_abs, v_max2, v_min2, v_stri, v_lens, v_lent, v_lenr, v_tupt, v_tupr, v_lstt, v_lstr, v_any, v_all, v_ixt, v_ixr, v_seti, v_pts, v_ptn, v_sls, v_slt, v_slr, v_fld, v_setf, v_okl, v_oks, v_app, v_pop, v_lt, v_le, v_gt, v_ge, v_eq, v_ne, v_in, v_ni, v_eqii, v_eqss, v_eqbb, v_eqsi, v_eqis, v_eqni, v_eqin, v_eqns, v_eqsn, v_trn, v_trb, v_tri, v_trt, v_trr, v_trs, v_fms, v_fmi, v_inp, v_inl, v_ins, t_n, t_b, t_i, t_s, t_t, t_r, tyO_1, tyO_2, tyO_3, tyO_4, y_n, y_b, y_i, y_s, y_t, y_l, y_d, y_o, y_o1, y_o2, y_o3, y_o4, y_o5, y_o6, w_t, w_s, w_r, w_e, w_zt, List.map_cons, List.map_nil, List.replicate_succ, List.replicate_zero, List.cons_append, List.nil_append, List.append_nil, List.set_cons_zero, List.set_cons_succ, List.any_cons, List.any_nil, List.lookup_cons_self, meT, reduceCtorEq, decide_true, decide_false, Bool.or_false, Bool.false_or, Bool.or_true, Bool.true_or, Bool.not_true, Bool.not_false, Bool.and_true, Bool.true_and, Bool.and_false, Bool.false_and, true_and, and_true, wipeE, List.getElem?_concat_length]
        refine go_ints (int_dg q1.1 q1.2) (by unfold dg; simp) ?_
        simp (implicitDefEqProofs := false) (dsimp := false) (failIfUnchanged := false) only [lz1, z_ifT, z_ifF, ks_nx, ks_rt, ks_bk, ks_ct, ks_xc, kl_nx, kl_rt, kl_bk, kl_ct, kl_xc, kc_nx, kc_rt, kc_xc, kt_nx, kt_rt, kt_bk, kt_ct, kt_xc, kh_nx, kh_rt, un_n, un_s, isNon_1, isNon_2, isNon_3, isNon_4, isNon_5, isNon_6, isNon_7, boolQ_1, intQ_1, optQ_1, lstQ_1, sqQ_1, sqQ_2, insQ_1, getIx_0, getIx_1, getIx_2, getIx_3, getIx_4, getIx_5, setIx_0, setIx_1, setIx_2, bindQ_nm, bindL_0, bindL_1, bindQ_tp, z_var, z_con, z_glo, z_bin, z_neg, z_cmp, z_chain, z_isN, z_notN, z_and, z_or, z_not, z_ife, z_call, z_make, methQ_1, z_meth, z_fld, z_pr, z_me, z_isi, z_idx, z_sli, z_abs0, z_tup, z_lst, z_fstr, z_efld, z_eisi, z_comp, z_Tcmp, z_Tchain, z_TisN, z_TnotN, z_Tand, z_Tor, z_Tnot, z_Ttv, z_nil, z_cons, z_Fnil, z_Fcons, z_Tsn, z_Ts1, z_rng1, int2Q_1, z_rng2, z_enm, z_zip, z_sq, z_Bnil, z_Bcons, z_asg, z_asgt, z_asg2, z_setf, z_seti, augQ_1, augQ_2, z_augn, z_augf, z_exp, z_ret, z_retN, z_if, z_for, z_whl, z_brk, z_cnt, z_pas, z_rais0, z_rais1, z_try, z_Hnil, z_Hcons, v_v0, v_vs, v_add, v_sub, v_mul, v_fdiv, v_mod, v_pow, v_sadd, v_tadd, v_ladd, v_lmul, v_int, v_intb, v_abs, v_max2, v_min2, v_stri, v_lens, v_lent, v_lenr, v_tupt, v_tupr, v_lstt, v_lstr, v_any, v_all, v_ixt, v_ixr, v_seti, v_pts, v_ptn, v_sls, v_slt, v_slr, v_fld, v_setf, v_okl, v_oks, v_app, v_pop, v_lt, v_le, v_gt, v_ge, v_eq, v_ne, v_in, v_ni, v_eqii, v_eqss, v_eqbb, v_eqsi, v_eqis, v_eqni, v_eqin, v_eqns, v_eqsn, v_trn, v_trb, v_tri, v_trt, v_trr, v_trs, v_fms, v_fmi, v_inp, v_inl, v_ins, t_n, t_b, t_i, t_s, t_t, t_r, tyO_1, tyO_2, tyO_3, tyO_4, y_n, y_b, y_i, y_s, y_t, y_l, y_d, y_o, y_o1, y_o2, y_o3, y_o4, y_o5, y_o6, w_t, w_s, w_r, w_e, w_zt, List.map_cons, List.map_nil, List.replicate_succ, List.replicate_zero, List.cons_append, List.nil_append, List.append_nil, List.set_cons_zero, List.set_cons_succ, List.any_cons, List.any_nil, List.lookup_cons_self, meT, reduceCtorEq, decide_true, decide_false, Bool.or_false, Bool.false_or, Bool.or_true, Bool.true_or, Bool.not_true, Bool.not_false, Bool.and_true, Bool.true_and, Bool.and_false, Bool.false_and, true_and, and_true, wipeE, List.getElem?_concat_length, e8]
        refine ⟨Nat.lt_of_le_of_lt (show _ ≤ 1000 by rw [e3]; have := congrArg List.length e1; simp at this ⊢; omega) (by decide), ?_⟩
        refine hN _ _ ⟨done ++ [q], qs, join_snoc e1, rfl, ?_, set_last _ _ _⟩
        rw [e3]
        simp
    · subst e4
      cases qs with
      | cons q qs => cases e2
      | nil =>
        rw [List.append_nil] at e1
        subst e1 e3
        simp (implicitDefEqProofs := false) (dsimp := false) (failIfUnchanged := false) only [lz1, z_ifT, z_ifF, ks_nx, ks_rt, ks_bk, ks_ct, ks_xc, kl_nx, kl_rt, kl_bk, kl_ct, kl_xc, kc_nx, kc_rt, kc_xc, kt_nx, kt_rt, kt_bk, kt_ct, kt_xc, kh_nx, kh_rt, un_n, un_s, isNon_1, isNon_2, isNon_3, isNon_4, isNon_5, isNon_6, isNon_7, boolQ_1, intQ_1, optQ_1, lstQ_1, sqQ_1, sqQ_2, insQ_1, getIx_0, getIx_1, getIx_2, getIx_3, getIx_4, getIx_5, setIx_0, setIx_1, setIx_2, bindQ_nm, bindL_0, bindL_1, bindQ_tp, z_var, z_con, z_glo, z_bin, z_neg, z_cmp, z_chain, z_isN, z_notN, z_and, z_or, z_not, z_ife, z_call, z_make, methQ_1, z_meth, z_fld, z_pr, z_me, z_isi, z_idx, z_sli, z_abs0, z_tup, z_lst, z_fstr, z_efld, z_eisi, z_comp, z_Tcmp, z_Tchain, z_TisN, z_TnotN, z_Tand, z_Tor, z_Tnot, z_Ttv, z_nil, z_cons, z_Fnil, z_Fcons, z_Tsn, z_Ts1, z_rng1, int2Q_1, z_rng2, z_enm, z_zip, z_sq, z_Bnil, z_Bcons, z_asg, z_asgt, z_asg2, z_setf, z_seti, augQ_1, augQ_2, z_augn, z_augf, z_exp, z_ret, z_retN, z_if, z_for, z_whl, z_brk, z_cnt, z_pas, z_rais0, z_rais1, z_try, z_Hnil, z_Hcons, v_v0, v_vs, v_add, v_sub, v_mul, v_fdiv, v_mod, v_pow, v_sadd, v_tadd, v_ladd, v_lmul, v_int, v_intb, v_abs, v_max2, v_min2, v_stri, v_lens, v_lent, v_lenr, v_tupt, v_tupr, v_lstt, v_lstr, v_any, v_all, v_ixt, v_ixr, v_seti, v_pts, v_ptn, v_sls, v_slt, v_slr, v_fld, v_setf, v_okl, v_oks, v_app, v_pop, v_lt, v_le, v_gt, v_ge, v_eq, v_ne, v_in, v_ni, v_eqii, v_eqss, v_eqbb, v_eqsi, v_eqis, v_eqni, v_eqin, v_eqns, v_eqsn, v_trn, v_trb, v_tri, v_trt, v_trr, v_trs, v_fms, v_fmi, v_inp, v_inl, v_ins, t_n, t_b, t_i, t_s, t_t, t_r, tyO_1, tyO_2, tyO_3, tyO_4, y_n, y_b, y_i, y_s, y_t, y_l, y_d, y_o, y_o1, y_o2, y_o3, y_o4, y_o5, y_o6, w_t, w_s, w_r, w_e, w_zt, List.map_cons, List.map_nil, List.replicate_succ, List.replicate_zero, List.cons_append, List.nil_append, List.append_nil, List.set_cons_zero, List.set_cons_succ, List.any_cons, List.any_nil, List.lookup_cons_self, meT, reduceCtorEq, decide_true, decide_false, Bool.or_false, Bool.false_or, Bool.or_true, Bool.true_or, Bool.not_true, Bool.not_false, Bool.and_true, Bool.true_and, Bool.and_false, Bool.false_and, true_and, and_true, wipeE, List.getElem?_concat_length, e8]
        rw [List.append_assoc]
        exact hq _
end Y.K_k17
set_option linter.all false
set_option maxHeartbeats 4000000
set_option maxRecDepth 100000
namespace Y.K_k17
open Y PySem
def plain : Nat → D → Prop
  | _, .int _ => True
  | _, .str _ => True
  | n + 1, .tup ds => ds.length ≤ 1000 ∧ ∀ d ∈ ds, plain n d
  | _, _ => False
theorem same : ∀ (n : Nat) (d : D), plain n d → ∀ (k : Nat) (st : Store) (Q : QE) (X : QX), (∀ s, Keep st s → Q (.bl true) s) → Call T (k + n + 1) 22 [d, d] st Q X := by
  intro n
  induction n with
  | zero =>
    intro d hd k st Q X hq
    refine call_z f__law_same.fn rfl rfl ?_
    show wpB T (Call T (k + 0)) none b__law_same [some d, some d, none] st _
    unfold b__law_same
    cases d with
    | int i =>
      simp (implicitDefEqProofs := false) (dsimp := false) (failIfUnchanged := false) only [lz1, z_ifT, z_ifF, ks_nx, ks_rt, ks_bk, ks_ct, ks_xc, kl_nx, kl_rt, kl_bk, kl_ct, kl_xc, kc_nx, kc_rt, kc_xc, kt_nx, kt_rt, kt_bk, kt_ct, kt_xc, kh_nx, kh_rt, un_n, un_s, isNon_1, isNon_2, isNon_3, isNon_4, isNon_5, isNon_6, isNon_7, boolQ_1, intQ_1, optQ_1, lstQ_1, sqQ_1, sqQ_2, insQ_1, getIx_0, getIx_1, getIx_2, getIx_3, getIx_4, getIx_5, setIx_0, setIx_1, setIx_2, bindQ_nm, bindL_0, bindL_1, bindQ_tp, z_var, z_con, z_glo, z_bin, z_neg, z_cmp, z_chain, z_isN, z_notN, z_and, z_or, z_not, z_ife, z_call, z_make, methQ_1, z_meth, z_fld, z_pr, z_me, z_isi, z_idx, z_sli, z_abs0, z_tup, z_lst, z_fstr, z_efld, z_eisi, z_comp, z_Tcmp, z_Tchain, z_TisN, z_TnotN, z_Tand, z_Tor, z_Tnot, z_Ttv, z_nil, z_cons, z_Fnil, z_Fcons, z_Tsn, z_Ts1, z_rng1, int2Q_1, z_rng2, z_enm, z_zip, z_sq, z_Bnil, z_Bcons, z_asg, z_asgt, z_asg2, z_setf, z_seti, augQ_1, augQ_2, z_augn, z_augf, z_exp, z_ret, z_retN, z_if, z_for, z_whl, z_brk, z_cnt, z_pas, z_rais0, z_rais1, z_try, z_Hnil, z_Hcons, v_v0, v_vs, v_add, v_sub, v_mul, v_fdiv, v_mod, v_pow, v_sadd, v_tadd, v_ladd, v_lmul, v_int, v_intb, v_abs, v_max2, v_min2, v_stri, v_lens, v_lent, v_lenr, v_tupt, v_tupr, v_lstt, v_lstr, v_any, v_all, v_ixt, v_ixr, v_seti, v_pts, v_ptn, v_sls, v_slt, v_slr, v_fld, v_setf, v_okl, v_oks, v_app, v_pop, v_lt, v_le, v_gt, v_ge, v_eq, v_ne, v_in, v_ni, v_eqii, v_eqss, v_eqbb, v_eqsi, v_eqis, v_eqni, v_eqin, v_eqns, v_eqsn, v_trn, v_trb, v_tri, v_trt, v_trr, v_trs, v_fms, v_fmi, v_inp, v_inl, v_ins, t_n, t_b, t_i, t_s, t_t, t_r, tyO_1, tyO_2, tyO_3, tyO_4, y_n, y_b, y_i, y_s, y_t, y_l, y_d, y_o, y_o1, y_o2, y_o3, y_o4, y_o5, y_o6, w_t, w_s, w_r, w_e, w_zt, List.map_cons, List.map_nil, List.replicate_succ, List.replicate_zero, List.cons_append, List.nil_append, List.append_nil, List.set_cons_zero, List.set_cons_succ, List.any_cons, List.any_nil, List.lookup_cons_self, meT, reduceCtorEq, decide_true, decide_false, Bool.or_false, Bool.false_or, Bool.or_true, Bool.true_or, Bool.not_true, Bool.not_false, Bool.and_true, Bool.true_and, Bool.and_false, Bool.false_and, true_and, and_true, wipeE, List.getElem?_concat_length]
      exact hq _ (.refl _)
    | str x =>
      simp (implicitDefEqProofs := false) (dsimp := false) (failIfUnchanged := false) only [lz1, z_ifT, z_ifF, ks_nx, ks_rt, ks_bk, ks_ct, ks_xc, kl_nx, kl_rt, kl_bk, kl_ct, kl_xc, kc_nx, kc_rt, kc_xc, kt_nx, kt_rt, kt_bk, kt_ct, kt_xc, kh_nx, kh_rt, un_n, un_s, isNon_1, isNon_2, isNon_3, isNon_4, isNon_5, isNon_6, isNon_7, boolQ_1, intQ_1, optQ_1, lstQ_1, sqQ_1, sqQ_2, insQ_1, getIx_0, getIx_1, getIx_2, getIx_3, getIx_4, getIx_5, setIx_0, setIx_1, setIx_2, bindQ_nm, bindL_0, bindL_1, bindQ_tp, z_var, z_con, z_glo, z_bin, z_neg, z_cmp, z_chain, z_isN, z_notN, z_and, z_or, z_not, z_ife, z_call, z_make, methQ_1, z_meth, z_fld, z_pr, z_me, z_isi, z_idx, z_sli, z_abs0, z_tup, z_lst, z_fstr, z_efld, z_eisi, z_comp, z_Tcmp, z_Tchain, z_TisN, z_TnotN, z_Tand, z_Tor, z_Tnot, z_Ttv, z_nil, z_cons, z_Fnil, z_Fcons, z_Tsn, z_Ts1, z_rng1, int2Q_1, z_rng2, z_enm, z_zip, z_sq, z_Bnil, z_Bcons, z_asg, z_asgt, z_asg2, z_setf, z_seti, augQ_1, augQ_2, z_augn, z_augf, z_exp, z_ret, z_retN, z_if, z_for, z_whl, z_brk, z_cnt, z_pas, z_rais0, z_rais1, z_try, z_Hnil, z_Hcons, v_v0, v_vs, v_add, v_sub, v_mul, v_fdiv, v_mod, v_pow, v_sadd, v_tadd, v_ladd, v_lmul, v_int, v_intb, v_abs, v_max2, v_min2, v_stri, v_lens, v_lent, v_lenr, v_tupt, v_tupr, v_lstt, v_lstr, v_any, v_all, v_ixt, v_ixr, v_seti, v_pts, v_ptn, v_sls, v_slt, v_slr, v_fld, v_setf, v_okl, v_oks, v_app, v_pop, v_lt, v_le, v_gt, v_ge, v_eq, v_ne, v_in, v_ni, v_eqii, v_eqss, v_eqbb, v_eqsi, v_eqis, v_eqni, v_eqin, v_eqns, v_eqsn, v_trn, v_trb, v_tri, v_trt, v_trr, v_trs, v_fms, v_fmi, v_inp, v_inl, v_ins, t_n, t_b, t_i, t_s, t_t, t_r, tyO_1, tyO_2, tyO_3, tyO_4, y_n, y_b, y_i, y_s, y_t, y_l, y_d, y_o, y_o1, y_o2, y_o3, y_o4, y_o5, y_o6, w_t, w_s, w_r, w_e, w_zt, List.map_cons, List.map_nil, List.replicate_succ, List.replicate_zero, List.cons_append, List.nil_append, List.append_nil, List.set_cons_zero, List.set_cons_succ, List.any_cons, List.any_nil, List.lookup_cons_self, meT, reduceCtorEq, decide_true, decide_false, Bool.or_false, Bool.false_or, Bool.or_true, Bool.true_or, Bool.not_true, Bool.not_false, Bool.and_true, Bool.true_and, Bool.and_false, Bool.false_and, true_and, and_true, wipeE, List.getElem?_concat_length]
      exact hq _ (.refl _)
    | _ => cases hd
  | succ n ih =>
    intro d hd k st Q X hq
    refine call_z f__law_same.fn rfl rfl ?_
    show wpB T (Call T (k + (n + 1))) none b__law_same [some d, some d, none] st _
    unfold b__law_same
    cases d with
    | int i =>
      simp (implicitDefEqProofs := false) (dsimp := false) (failIfUnchanged := false) only [lz1, z_ifT, z_ifF, ks_nx, ks_rt, ks_bk, ks_ct, ks_xc, kl_nx, kl_rt, kl_bk, kl_ct, kl_xc, kc_nx, kc_rt, kc_xc, kt_nx, kt_rt, kt_bk, kt_ct, kt_xc, kh_nx, kh_rt, un_n, un_s, isNon_1, isNon_2, isNon_3, isNon_4, isNon_5, isNon_6, isNon_7, boolQ_1, intQ_1, optQ_1, lstQ_1, sqQ_1, sqQ_2, insQ_1, getIx_0, getIx_1, getIx_2, getIx_3, getIx_4, getIx_5, setIx_0, setIx_1, setIx_2, bindQ_nm, bindL_0, bindL_1, bindQ_tp, z_var, z_con, z_glo, z_bin, z_neg, z_cmp, z_chain, z_isN, z_notN, z_and, z_or, z_not, z_ife, z_call, z_make, methQ_1, z_meth, z_fld, z_pr, z_me, z_isi, z_idx, z_sli, z_abs0, z_tup, z_lst, z_fstr, z_efld, z_eisi, z_comp, z_Tcmp, z_Tchain, z_TisN, z_TnotN, z_Tand, z_Tor, z_Tnot, z_Ttv, z_nil, z_cons, z_Fnil, z_Fcons, z_Tsn, z_Ts1, z_rng1, int2Q_1, z_rng2, z_enm, z_zip, z_sq, z_Bnil, z_Bcons, z_asg, z_asgt, z_asg2, z_setf, z_seti, augQ_1, augQ_2, z_augn, z_augf, z_exp, z_ret, z_retN, z_if, z_for, z_whl, z_brk, z_cnt, z_pas, z_rais0, z_rais1, z_try, z_Hnil, z_Hcons, v_v0, v_vs, v_add, v_sub, v_mul, v_fdiv, v_mod, v_pow, v_sadd, v_tadd, v_ladd, v_lmul, v_int, v_intb, v_abs, v_max2, v_min2, v_stri, v_lens, v_lent, v_lenr, v_tupt, v_tupr, v_lstt, v_lstr, v_any, v_all, v_ixt, v_ixr, v_seti, v_pts, v_ptn, v_sls, v_slt, v_slr, v_fld, v_setf, v_okl, v_oks, v_app, v_pop, v_lt, v_le, v_gt, v_ge, v_eq, v_ne, v_in, v_ni, v_eqii, v_eqss, v_eqbb, v_eqsi, v_eqis, v_eqni, v_eqin, v_eqns, v_eqsn, v_trn, v_trb, v_tri, v_trt, v_trr, v_trs, v_fms, v_fmi, v_inp, v_inl, v_ins, t_n, t_b, t_i, t_s, t_t, t_r, tyO_1, tyO_2, tyO_3, tyO_4, y_n, y_b, y_i, y_s, y_t, y_l, y_d, y_o, y_o1, y_o2, y_o3, y_o4, y_o5, y_o6, w_t, w_s, w_r, w_e, w_zt, List.map_cons, List.map_nil, List.replicate_succ, List.replicate_zero, List.cons_append, List.nil_append, List.append_nil, List.set_cons_zero, List.set_cons_succ, List.any_cons, List.any_nil, List.lookup_cons_self, meT, reduceCtorEq, decide_true, decide_false, Bool.or_false, Bool.false_or, Bool.or_true, Bool.true_or, Bool.not_true, Bool.not_false, Bool.and_true, Bool.true_and, Bool.and_false, Bool.false_and, true_and, and_true, wipeE, List.getElem?_concat_length]
      exact hq _ (.refl _)
    | str x =>
      simp (implicitDefEqProofs := false) (dsimp := false) (failIfUnchanged := false) only [lz1, z_ifT, z_ifF, ks_nx, ks_rt, ks_bk, ks_ct, ks_xc, kl_nx, kl_rt, kl_bk, kl_ct, kl_xc, kc_nx, kc_rt, kc_xc, kt_nx, kt_rt, kt_bk, kt_ct, kt_xc, kh_nx, kh_rt, un_n, un_s, isNon_1, isNon_2, isNon_3, isNon_4, isNon_5, isNon_6, isNon_7, boolQ_1, intQ_1, optQ_1, lstQ_1, sqQ_1, sqQ_2, insQ_1, getIx_0, getIx_1, getIx_2, getIx_3, getIx_4, getIx_5, setIx_0, setIx_1, setIx_2, bindQ_nm, bindL_0, bindL_1, bindQ_tp, z_var, z_con, z_glo, z_bin, z_neg, z_cmp, z_chain, z_isN, z_notN, z_and, z_or, z_not, z_ife, z_call, z_make, methQ_1, z_meth, z_fld, z_pr, z_me, z_isi, z_idx, z_sli, z_abs0, z_tup, z_lst, z_fstr, z_efld, z_eisi, z_comp, z_Tcmp, z_Tchain, z_TisN, z_TnotN, z_Tand, z_Tor, z_Tnot, z_Ttv, z_nil, z_cons, z_Fnil, z_Fcons, z_Tsn, z_Ts1, z_rng1, int2Q_1, z_rng2, z_enm, z_zip, z_sq, z_Bnil, z_Bcons, z_asg, z_asgt, z_asg2, z_setf, z_seti, augQ_1, augQ_2, z_augn, z_augf, z_exp, z_ret, z_retN, z_if, z_for, z_whl, z_brk, z_cnt, z_pas, z_rais0, z_rais1, z_try, z_Hnil, z_Hcons, v_v0, v_vs, v_add, v_sub, v_mul, v_fdiv, v_mod, v_pow, v_sadd, v_tadd, v_ladd, v_lmul, v_int, v_intb, v_abs, v_max2, v_min2, v_stri, v_lens, v_lent, v_lenr, v_tupt, v_tupr, v_lstt, v_lstr, v_any, v_all, v_ixt, v_ixr, v_seti, v_pts, v_ptn, v_sls, v_slt, v_slr, v_fld, v_setf, v_okl, v_oks, v_app, v_pop, v_lt, v_le, v_gt, v_ge, v_eq, v_ne, v_in, v_ni, v_eqii, v_eqss, v_eqbb, v_eqsi, v_eqis, v_eqni, v_eqin, v_eqns, v_eqsn, v_trn, v_trb, v_tri, v_trt, v_trr, v_trs, v_fms, v_fmi, v_inp, v_inl, v_ins, t_n, t_b, t_i, t_s, t_t, t_r, tyO_1, tyO_2, tyO_3, tyO_4, y_n, y_b, y_i, y_s, y_t, y_l, y_d, y_o, y_o1, y_o2, y_o3, y_o4, y_o5, y_o6, w_t, w_s, w_r, w_e, w_zt, List.map_cons, List.map_nil, List.replicate_succ, List.replicate_zero, List.cons_append, List.nil_append, List.append_nil, List.set_cons_zero, List.set_cons_succ, List.any_cons, List.any_nil, List.lookup_cons_self, meT, reduceCtorEq, decide_true, decide_false, Bool.or_false, Bool.false_or, Bool.or_true, Bool.true_or, Bool.not_true, Bool.not_false, Bool.and_true, Bool.true_and, Bool.and_false, Bool.false_and, true_and, and_true, wipeE, List.getElem?_concat_length]
      exact hq _ (.refl _)
    | tup ds =>
      have hl := hd.1
      simp (implicitDefEqProofs := false) (dsimp := false) (failIfUnchanged := false) only [lz1, z_ifT, z_ifF, ks_nx, ks_rt, ks_bk, ks_ct, ks_xc, kl_nx, kl_rt, kl_bk, kl_ct, kl_xc, kc_nx, kc_rt, kc_xc, kt_nx, kt_rt, kt_bk, kt_ct, kt_xc, kh_nx, kh_rt, un_n, un_s, isNon_1, isNon_2, isNon_3, isNon_4, isNon_5, isNon_6, isNon_7, boolQ_1, intQ_1, optQ_1, lstQ_1, sqQ_1, sqQ_2, insQ_1, getIx_0, getIx_1, getIx_2, getIx_3, getIx_4, getIx_5, setIx_0, setIx_1, setIx_2, bindQ_nm, bindL_0, bindL_1, bindQ_tp, z_var, z_con, z_glo, z_bin, z_neg, z_cmp, z_chain, z_isN, z_notN, z_and, z_or, z_not, z_ife, z_call, z_make, methQ_1, z_meth, z_fld, z_pr, z_me, z_isi, z_idx, z_sli, z_abs0, z_tup, z_lst, z_fstr, z_efld, z_eisi, z_comp, z_Tcmp, z_Tchain, z_TisN, z_TnotN, z_Tand, z_Tor, z_Tnot, z_Ttv, z_nil, z_cons, z_Fnil, z_Fcons, z_Tsn, z_Ts1, z_rng1, int2Q_1, z_rng2, z_enm, z_zip, z_sq, z_Bnil, z_Bcons, z_asg, z_asgt, z_asg2, z_setf, z_seti, augQ_1, augQ_2, z_augn, z_augf, z_exp, z_ret, z_retN, z_if, z_for, z_whl, z_brk, z_cnt, z_pas, z_rais0, z_rais1, z_try, z_Hnil, z_Hcons, v_v0, v_vs, v_add, v_sub, v_mul, v_fdiv, v_mod, v_pow, v_sadd, v_tadd, v_ladd, v_lmul, v_int, v_intb, v_abs, v_max2, v_min2, v_stri, v_lens, v_lent, v_lenr, v_tupt, v_tupr, v_lstt, v_lstr, v_any, v_all, v_ixt, v_ixr, v_seti, v_pts, v_ptn, v_sls, v_slt, v_slr, v_fld, v_setf, v_okl, v_oks, v_app, v_pop, v_lt, v_le, v_gt, v_ge, v_eq, v_ne, v_in, v_ni, v_eqii, v_eqss, v_eqbb, v_eqsi, v_eqis, v_eqni, v_eqin, v_eqns, v_eqsn, v_trn, v_trb, v_tri, v_trt, v_trr, v_trs, v_fms, v_fmi, v_inp, v_inl, v_ins, t_n, t_b, t_i, t_s, t_t, t_r, tyO_1, tyO_2, tyO_3, tyO_4, y_n, y_b, y_i, y_s, y_t, y_l, y_d, y_o, y_o1, y_o2, y_o3, y_o4, y_o5, y_o6, w_t, w_s, w_r, w_e, w_zt, List.map_cons, List.map_nil, List.replicate_succ, List.replicate_zero, List.cons_append, List.nil_append, List.append_nil, List.set_cons_zero, List.set_cons_succ, List.any_cons, List.any_nil, List.lookup_cons_self, meT, reduceCtorEq, decide_true, decide_false, Bool.or_false, Bool.false_or, Bool.or_true, Bool.true_or, Bool.not_true, Bool.not_false, Bool.and_true, Bool.true_and, Bool.and_false, Bool.false_and, true_and, and_true, wipeE, List.getElem?_concat_length]
      refine ⟨by omega, by omega, ?_⟩
      rw [Int.toNat_natCast, rngD_rg]
      refine cmp_s (fun r acc s => ∃ i m, i + m = ds.length ∧ r = rg i m ∧ acc = (List.replicate i true).map D.bl ∧ s[st.length]? = some (.lst acc) ∧ Keep st s) ⟨0, ds.length, by omega, rfl, rfl, get_snoc _ _, .new _ _⟩ (fun d r acc s N ⟨i, m, e1, e2, e3, e4, e5⟩ hN => ?_) (fun acc s ⟨i, m, e1, e2, e3, e4, e5⟩ => ?_)
      · cases m with
        | zero => cases e2
        | succ m =>
          rw [rg_succ] at e2
          cases e2
          have il : i < ds.length := by omega
          simp (implicitDefEqProofs := false) (dsimp := false) (failIfUnchanged := false) only [lz1, z_ifT, z_ifF, ks_nx, ks_rt, ks_bk, ks_ct, ks_xc, kl_nx, kl_rt, kl_bk, kl_ct, kl_xc, kc_nx, kc_rt, kc_xc, kt_nx, kt_rt, kt_bk, kt_ct, kt_xc, kh_nx, kh_rt, un_n, un_s, isNon_1, isNon_2, isNon_3, isNon_4, isNon_5, isNon_6, isNon_7, boolQ_1, intQ_1, optQ_1, lstQ_1, sqQ_1, sqQ_2, insQ_1, getIx_0, getIx_1, getIx_2, getIx_3, getIx_4, getIx_5, setIx_0, setIx_1, setIx_2, bindQ_nm, bindL_0, bindL_1, bindQ_tp, z_var, z_con, z_glo, z_bin, z_neg, z_cmp, z_chain, z_isN, z_notN, z_and, z_or, z_not, z_ife, z_call, z_make, methQ_1, z_meth, z_fld, z_pr, z_me, z_isi, z_idx, z_sli, z_abs0, z_tup, z_lst, z_fstr, z_efld, z_eisi, z_comp, z_Tcmp, z_Tchain, z_TisN, z_TnotN, z_Tand, z_Tor, z_Tnot, z_Ttv, z_nil, z_cons, z_Fnil, z_Fcons, z_Tsn, z_Ts1, z_rng1, int2Q_1, z_rng2, z_enm, z_zip, z_sq, z_Bnil, z_Bcons, z_asg, z_asgt, z_asg2, z_setf, z_seti, augQ_1, augQ_2, z_augn, z_augf, z_exp, z_ret, z_retN, z_if, z_for, z_whl, z_brk, z_cnt, z_pas, z_rais0, z_rais1, z_try, z_Hnil, z_Hcons, v_v0, v_vs, v_add, v_sub, v_mul, v_fdiv, v_mod, v_pow, v_sadd, v_tadd, v_ladd, v_lmul, v_int, v_intb, v_abs, v_max2, v_min2, v_stri, v_lens, v_lent, v_lenr, v_tupt, v_tupr, v_lstt, v_lstr, v_any, v_all, v_ixt, v_ixr, v_seti, v_pts, v_ptn, v_sls, v_slt, v_slr, v_fld, v_setf, v_okl, v_oks, v_app, v_pop, v_lt, v_le, v_gt, v_ge, v_eq, v_ne, v_in, v_ni, v_eqii, v_eqss, v_eqbb, v_eqsi, v_eqis, v_eqni, v_eqin, v_eqns, v_eqsn, v_trn, v_trb, v_tri, v_trt, v_trr, v_trs, v_fms, v_fmi, v_inp, v_inl, v_ins, t_n, t_b, t_i, t_s, t_t, t_r, tyO_1, tyO_2, tyO_3, tyO_4, y_n, y_b, y_i, y_s, y_t, y_l, y_d, y_o, y_o1, y_o2, y_o3, y_o4, y_o5, y_o6, w_t, w_s, w_r, w_e, w_zt, List.map_cons, List.map_nil, List.replicate_succ, List.replicate_zero, List.cons_append, List.nil_append, List.append_nil, List.set_cons_zero, List.set_cons_succ, List.any_cons, List.any_nil, List.lookup_cons_self, meT, reduceCtorEq, decide_true, decide_false, Bool.or_false, Bool.false_or, Bool.or_true, Bool.true_or, Bool.not_true, Bool.not_false, Bool.and_true, Bool.true_and, Bool.and_false, Bool.false_and, true_and, and_true, wipeE, List.getElem?_concat_length, getIx_n il]
          refine ih ds[i] (hd.2 _ (List.getElem_mem il)) k s _ _ fun s2 k2 => ?_
          simp (implicitDefEqProofs := false) (dsimp := false) (failIfUnchanged := false) only [lz1, z_ifT, z_ifF, ks_nx, ks_rt, ks_bk, ks_ct, ks_xc, kl_nx, kl_rt, kl_bk, kl_ct, kl_xc, kc_nx, kc_rt, kc_xc, kt_nx, kt_rt, kt_bk, kt_ct, kt_xc, kh_nx, kh_rt, un_n, un_s, isNon_1, isNon_2, isNon_3, isNon_4, isNon_5, isNon_6, isNon_7, boolQ_1, intQ_1, optQ_1, lstQ_1, sqQ_1, sqQ_2, insQ_1, getIx_0, getIx_1, getIx_2, getIx_3, getIx_4, getIx_5, setIx_0, setIx_1, setIx_2, bindQ_nm, bindL_0, bindL_1, bindQ_tp, z_var, z_con, z_glo, z_bin, z_neg, z_cmp, z_chain, z_isN, z_notN, z_and, z_or, z_not, z_ife, z_call, z_make, methQ_1, z_meth, z_fld, z_pr, z_me, z_isi, z_idx, z_sli, z_abs0, z_tup, z_lst, z_fstr, z_efld, z_eisi, z_comp, z_Tcmp, z_Tchain, z_TisN, z_TnotN, z_Tand, z_Tor, z_Tnot, z_Ttv, z_nil, z_cons, z_Fnil, z_Fcons, z_Tsn, z_Ts1, z_rng1, int2Q_1, z_rng2, z_enm, z_zip, z_sq, z_Bnil, z_Bcons, z_asg, z_asgt, z_asg2, z_setf, z_seti, augQ_1, augQ_2, z_augn, z_augf, z_exp, z_ret, z_retN, z_if, z_for, z_whl, z_brk, z_cnt, z_pas, z_rais0, z_rais1, z_try, z_Hnil, z_Hcons, v_v0, v_vs, v_add, v_sub, v_mul, v_fdiv, v_mod, v_pow, v_sadd, v_tadd, v_ladd, v_lmul, v_int, v_intb, v_abs, v_max2, v_min2, v_stri, v_lens, v_lent, v_lenr, v_tupt, v_tupr, v_lstt, v_lstr, v_any, v_all, v_ixt, v_ixr, v_seti, v_pts, v_ptn, v_sls, v_slt, v_slr, v_fld, v_setf, v_okl, v_oks, v_app, v_pop, v_lt, v_le, v_gt, v_ge, v_eq, v_ne, v_in, v_ni, v_eqii, v_eqss, v_eqbb, v_eqsi, v_eqis, v_eqni, v_eqin, v_eqns, v_eqsn, v_trn, v_trb, v_tri, v_trt, v_trr, v_trs, v_fms, v_fmi, v_inp, v_inl, v_ins, t_n, t_b, t_i, t_s, t_t, t_r, tyO_1, tyO_2, tyO_3, tyO_4, y_n, y_b, y_i, y_s, y_t, y_l, y_d, y_o, y_o1, y_o2, y_o3, y_o4, y_o5, y_o6, w_t, w_s, w_r, w_e, w_zt, List.map_cons, List.map_nil, List.replicate_succ, List.replicate_zero, List.cons_append, List.nil_append, List.append_nil, List.set_cons_zero, List.set_cons_succ, List.any_cons, List.any_nil, List.lookup_cons_self, meT, reduceCtorEq, decide_true, decide_false, Bool.or_false, Bool.false_or, Bool.or_true, Bool.true_or, Bool.not_true, Bool.not_false, Bool.and_true, Bool.true_and, Bool.and_false, Bool.false_and, true_and, and_true, wipeE, List.getElem?_concat_length, k2.get e4]
          refine ⟨lt_line (by rw [e3]; simp; omega), hN _ _ ⟨i + 1, m, by omega, rfl, ?_, set_get (k2.get e4), (e5.trans k2).set _ (Nat.le_refl _)⟩⟩
          rw [e3, List.replicate_succ']
          simp
      · cases m with
        | succ m => rw [rg_succ] at e2; cases e2
        | zero =>
          simp (implicitDefEqProofs := false) (dsimp := false) (failIfUnchanged := false) only [lz1, z_ifT, z_ifF, ks_nx, ks_rt, ks_bk, ks_ct, ks_xc, kl_nx, kl_rt, kl_bk, kl_ct, kl_xc, kc_nx, kc_rt, kc_xc, kt_nx, kt_rt, kt_bk, kt_ct, kt_xc, kh_nx, kh_rt, un_n, un_s, isNon_1, isNon_2, isNon_3, isNon_4, isNon_5, isNon_6, isNon_7, boolQ_1, intQ_1, optQ_1, lstQ_1, sqQ_1, sqQ_2, insQ_1, getIx_0, getIx_1, getIx_2, getIx_3, getIx_4, getIx_5, setIx_0, setIx_1, setIx_2, bindQ_nm, bindL_0, bindL_1, bindQ_tp, z_var, z_con, z_glo, z_bin, z_neg, z_cmp, z_chain, z_isN, z_notN, z_and, z_or, z_not, z_ife, z_call, z_make, methQ_1, z_meth, z_fld, z_pr, z_me, z_isi, z_idx, z_sli, z_abs0, z_tup, z_lst, z_fstr, z_efld, z_eisi, z_comp, z_Tcmp, z_Tchain, z_TisN, z_TnotN, z_Tand, z_Tor, z_Tnot, z_Ttv, z_nil, z_cons, z_Fnil, z_Fcons, z_Tsn, z_Ts1, z_rng1, int2Q_1, z_rng2, z_enm, z_zip, z_sq, z_Bnil, z_Bcons, z_asg, z_asgt, z_asg2, z_setf, z_seti, augQ_1, augQ_2, z_augn, z_augf, z_exp, z_ret, z_retN, z_if, z_for, z_whl, z_brk, z_cnt, z_pas, z_rais0, z_rais1, z_try, z_Hnil, z_Hcons, v_v0, v_vs, v_add, v_sub, v_mul, v_fdiv, v_mod, v_pow, v_sadd, v_tadd, v_ladd, v_lmul, v_int, v_intb, v_abs, v_max2, v_min2, v_stri, v_lens, v_lent, v_lenr, v_tupt, v_tupr, v_lstt, v_lstr, v_any, v_all, v_ixt, v_ixr, v_seti, v_pts, v_ptn, v_sls, v_slt, v_slr, v_fld, v_setf, v_okl, v_oks, v_app, v_pop, v_lt, v_le, v_gt, v_ge, v_eq, v_ne, v_in, v_ni, v_eqii, v_eqss, v_eqbb, v_eqsi, v_eqis, v_eqni, v_eqin, v_eqns, v_eqsn, v_trn, v_trb, v_tri, v_trt, v_trr, v_trs, v_fms, v_fmi, v_inp, v_inl, v_ins, t_n, t_b, t_i, t_s, t_t, t_r, tyO_1, tyO_2, tyO_3, tyO_4, y_n, y_b, y_i, y_s, y_t, y_l, y_d, y_o, y_o1, y_o2, y_o3, y_o4, y_o5, y_o6, w_t, w_s, w_r, w_e, w_zt, List.map_cons, List.map_nil, List.replicate_succ, List.replicate_zero, List.cons_append, List.nil_append, List.append_nil, List.set_cons_zero, List.set_cons_succ, List.any_cons, List.any_nil, List.lookup_cons_self, meT, reduceCtorEq, decide_true, decide_false, Bool.or_false, Bool.false_or, Bool.or_true, Bool.true_or, Bool.not_true, Bool.not_false, Bool.and_true, Bool.true_and, Bool.and_false, Bool.false_and, true_and, and_true, wipeE, List.getElem?_concat_length, e4]
          refine ⟨List.replicate i true, e3, ?_⟩
          rw [show (List.replicate i true).all id = true by simp]
          simp (implicitDefEqProofs := false) (dsimp := false) (failIfUnchanged := false) only [lz1, z_ifT, z_ifF, ks_nx, ks_rt, ks_bk, ks_ct, ks_xc, kl_nx, kl_rt, kl_bk, kl_ct, kl_xc, kc_nx, kc_rt, kc_xc, kt_nx, kt_rt, kt_bk, kt_ct, kt_xc, kh_nx, kh_rt, un_n, un_s, isNon_1, isNon_2, isNon_3, isNon_4, isNon_5, isNon_6, isNon_7, boolQ_1, intQ_1, optQ_1, lstQ_1, sqQ_1, sqQ_2, insQ_1, getIx_0, getIx_1, getIx_2, getIx_3, getIx_4, getIx_5, setIx_0, setIx_1, setIx_2, bindQ_nm, bindL_0, bindL_1, bindQ_tp, z_var, z_con, z_glo, z_bin, z_neg, z_cmp, z_chain, z_isN, z_notN, z_and, z_or, z_not, z_ife, z_call, z_make, methQ_1, z_meth, z_fld, z_pr, z_me, z_isi, z_idx, z_sli, z_abs0, z_tup, z_lst, z_fstr, z_efld, z_eisi, z_comp, z_Tcmp, z_Tchain, z_TisN, z_TnotN, z_Tand, z_Tor, z_Tnot, z_Ttv, z_nil, z_cons, z_Fnil, z_Fcons, z_Tsn, z_Ts1, z_rng1, int2Q_1, z_rng2, z_enm, z_zip, z_sq, z_Bnil, z_Bcons, z_asg, z_asgt, z_asg2, z_setf, z_seti, augQ_1, augQ_2, z_augn, z_augf, z_exp, z_ret, z_retN, z_if, z_for, z_whl, z_brk, z_cnt, z_pas, z_rais0, z_rais1, z_try, z_Hnil, z_Hcons, v_v0, v_vs, v_add, v_sub, v_mul, v_fdiv, v_mod, v_pow, v_sadd, v_tadd, v_ladd, v_lmul, v_int, v_intb, v_abs, v_max2, v_min2, v_stri, v_lens, v_lent, v_lenr, v_tupt, v_tupr, v_lstt, v_lstr, v_any, v_all, v_ixt, v_ixr, v_seti, v_pts, v_ptn, v_sls, v_slt, v_slr, v_fld, v_setf, v_okl, v_oks, v_app, v_pop, v_lt, v_le, v_gt, v_ge, v_eq, v_ne, v_in, v_ni, v_eqii, v_eqss, v_eqbb, v_eqsi, v_eqis, v_eqni, v_eqin, v_eqns, v_eqsn, v_trn, v_trb, v_tri, v_trt, v_trr, v_trs, v_fms, v_fmi, v_inp, v_inl, v_ins, t_n, t_b, t_i, t_s, t_t, t_r, tyO_1, tyO_2, tyO_3, tyO_4, y_n, y_b, y_i, y_s, y_t, y_l, y_d, y_o, y_o1, y_o2, y_o3, y_o4, y_o5, y_o6, w_t, w_s, w_r, w_e, w_zt, List.map_cons, List.map_nil, List.replicate_succ, List.replicate_zero, List.cons_append, List.nil_append, List.append_nil, List.set_cons_zero, List.set_cons_succ, List.any_cons, List.any_nil, List.lookup_cons_self, meT, reduceCtorEq, decide_true, decide_false, Bool.or_false, Bool.false_or, Bool.or_true, Bool.true_or, Bool.not_true, Bool.not_false, Bool.and_true, Bool.true_and, Bool.and_false, Bool.false_and, true_and, and_true, wipeE, List.getElem?_concat_length]
          exact hq _ e5
    | _ => cases hd
theorem islist {k a b : Nat} {ds : List D} {st : Store} {Q : QE} {X : QX} (ea : st[a]? = some (.lst ds)) (eb : st[b]? = some (.lst ds)) (hd : plain 3 (.tup ds)) (hq : ∀ s, Keep st s → Q (.bl true) s) : Call T (k + 5) 23 [.ref a, .ref b] st Q X := by
  refine call_z f__law_is_list.fn rfl rfl ?_
  show wpB T (Call T (k + 4)) none b__law_is_list [some (.ref a), some (.ref b)] st _
  unfold b__law_is_list
  simp (implicitDefEqProofs := false) (dsimp := false) (failIfUnchanged := false) only [lz1, z_ifT, z_ifF, ks_nx, ks_rt, ks_bk, ks_ct, ks_xc, kl_nx, kl_rt, kl_bk, kl_ct, kl_xc, kc_nx, kc_rt, kc_xc, kt_nx, kt_rt, kt_bk, kt_ct, kt_xc, kh_nx, kh_rt, un_n, un_s, isNon_1, isNon_2, isNon_3, isNon_4, isNon_5, isNon_6, isNon_7, boolQ_1, intQ_1, optQ_1, lstQ_1, sqQ_1, sqQ_2, insQ_1, getIx_0, getIx_1, getIx_2, getIx_3, getIx_4, getIx_5, setIx_0, setIx_1, setIx_2, bindQ_nm, bindL_0, bindL_1, bindQ_tp, z_var, z_con, z_glo, z_bin, z_neg, z_cmp, z_chain, z_isN, z_notN, z_and, z_or, z_not, z_ife, z_call, z_make, methQ_1, z_meth, z_fld, z_pr, z_me, z_isi, z_idx, z_sli, z_abs0, z_tup, z_lst, z_fstr, z_efld, z_eisi, z_comp, z_Tcmp, z_Tchain, z_TisN, z_TnotN, z_Tand, z_Tor, z_Tnot, z_Ttv, z_nil, z_cons, z_Fnil, z_Fcons, z_Tsn, z_Ts1, z_rng1, int2Q_1, z_rng2, z_enm, z_zip, z_sq, z_Bnil, z_Bcons, z_asg, z_asgt, z_asg2, z_setf, z_seti, augQ_1, augQ_2, z_augn, z_augf, z_exp, z_ret, z_retN, z_if, z_for, z_whl, z_brk, z_cnt, z_pas, z_rais0, z_rais1, z_try, z_Hnil, z_Hcons, v_v0, v_vs, v_add, v_sub, v_mul, v_fdiv, v_mod, v_pow, v_sadd, v_tadd, v_ladd, v_lmul, v_int, v_intb, v_abs, v_max2, v_min2, v_stri, v_lens, v_lent, v_lenr, v_tupt, v_tupr, v_lstt, v_lstr, v_any, v_all, v_ixt, v_ixr, v_seti, v_pts, v_ptn, v_sls, v_slt, v_slr, v_fld, v_setf, v_okl, v_oks, v_app, v_pop, v_lt, v_le, v_gt, v_ge, v_eq, v_ne, v_in, v_ni, v_eqii, v_eqss, v_eqbb, v_eqsi, v_eqis, v_eqni, v_eqin, v_eqns, v_eqsn, v_trn, v_trb, v_tri, v_trt, v_trr, v_trs, v_fms, v_fmi, v_inp, v_inl, v_ins, t_n, t_b, t_i, t_s, t_t, t_r, tyO_1, tyO_2, tyO_3, tyO_4, y_n, y_b, y_i, y_s, y_t, y_l, y_d, y_o, y_o1, y_o2, y_o3, y_o4, y_o5, y_o6, w_t, w_s, w_r, w_e, w_zt, List.map_cons, List.map_nil, List.replicate_succ, List.replicate_zero, List.cons_append, List.nil_append, List.append_nil, List.set_cons_zero, List.set_cons_succ, List.any_cons, List.any_nil, List.lookup_cons_self, meT, reduceCtorEq, decide_true, decide_false, Bool.or_false, Bool.false_or, Bool.or_true, Bool.true_or, Bool.not_true, Bool.not_false, Bool.and_true, Bool.true_and, Bool.and_false, Bool.false_and, true_and, and_true, wipeE, List.getElem?_concat_length, ea, eb]
  refine same 3 _ hd k st _ _ fun s ks => ?_
  simp (implicitDefEqProofs := false) (dsimp := false) (failIfUnchanged := false) only [lz1, z_ifT, z_ifF, ks_nx, ks_rt, ks_bk, ks_ct, ks_xc, kl_nx, kl_rt, kl_bk, kl_ct, kl_xc, kc_nx, kc_rt, kc_xc, kt_nx, kt_rt, kt_bk, kt_ct, kt_xc, kh_nx, kh_rt, un_n, un_s, isNon_1, isNon_2, isNon_3, isNon_4, isNon_5, isNon_6, isNon_7, boolQ_1, intQ_1, optQ_1, lstQ_1, sqQ_1, sqQ_2, insQ_1, getIx_0, getIx_1, getIx_2, getIx_3, getIx_4, getIx_5, setIx_0, setIx_1, setIx_2, bindQ_nm, bindL_0, bindL_1, bindQ_tp, z_var, z_con, z_glo, z_bin, z_neg, z_cmp, z_chain, z_isN, z_notN, z_and, z_or, z_not, z_ife, z_call, z_make, methQ_1, z_meth, z_fld, z_pr, z_me, z_isi, z_idx, z_sli, z_abs0, z_tup, z_lst, z_fstr, z_efld, z_eisi, z_comp, z_Tcmp, z_Tchain, z_TisN, z_TnotN, z_Tand, z_Tor, z_Tnot, z_Ttv, z_nil, z_cons, z_Fnil, z_Fcons, z_Tsn, z_Ts1, z_rng1, int2Q_1, z_rng2, z_enm, z_zip, z_sq, z_Bnil, z_Bcons, z_asg, z_asgt, z_asg2, z_setf, z_seti, augQ_1, augQ_2, z_augn, z_augf, z_exp, z_ret, z_retN, z_if, z_for, z_whl, z_brk, z_cnt, z_pas, z_rais0, z_rais1, z_try, z_Hnil, z_Hcons, v_v0, v_vs, v_add, v_sub, v_mul, v_fdiv, v_mod, v_pow, v_sadd, v_tadd, v_ladd, v_lmul, v_int, v_intb, v_abs, v_max2, v_min2, v_stri, v_lens, v_lent, v_lenr, v_tupt, v_tupr, v_lstt, v_lstr, v_any, v_all, v_ixt, v_ixr, v_seti, v_pts, v_ptn, v_sls, v_slt, v_slr, v_fld, v_setf, v_okl, v_oks, v_app, v_pop, v_lt, v_le, v_gt, v_ge, v_eq, v_ne, v_in, v_ni, v_eqii, v_eqss, v_eqbb, v_eqsi, v_eqis, v_eqni, v_eqin, v_eqns, v_eqsn, v_trn, v_trb, v_tri, v_trt, v_trr, v_trs, v_fms, v_fmi, v_inp, v_inl, v_ins, t_n, t_b, t_i, t_s, t_t, t_r, tyO_1, tyO_2, tyO_3, tyO_4, y_n, y_b, y_i, y_s, y_t, y_l, y_d, y_o, y_o1, y_o2, y_o3, y_o4, y_o5, y_o6, w_t, w_s, w_r, w_e, w_zt, List.map_cons, List.map_nil, List.replicate_succ, List.replicate_zero, List.cons_append, List.nil_append, List.append_nil, List.set_cons_zero, List.set_cons_succ, List.any_cons, List.any_nil, List.lookup_cons_self, meT, reduceCtorEq, decide_true, decide_false, Bool.or_false, Bool.false_or, Bool.or_true, Bool.true_or, Bool.not_true, Bool.not_false, Bool.and_true, Bool.true_and, Bool.and_false, Bool.false_and, true_and, and_true, wipeE, List.getElem?_concat_length]
  exact hq _ ks
theorem az_clean {x : List Nat} (h : ∀ c ∈ x, c ∈ az) : (x.all fun c => decide (c < 1114112)) = true := by
  rw [List.all_eq_true]
  intro c m
  have := h c m
  simp only [az, List.mem_cons, List.not_mem_nil, or_false] at this
  exact decide_eq_true (by omega)
theorem cleans_of {n : Nat} {ds : List D} (h : ∀ d ∈ ds, clean n d = true) : cleans n ds = true := by
  induction ds with
  | nil => cases n <;> rfl
  | cons d ds ih =>
    have : cleans n (d :: ds) = (clean n d && cleans n ds) := by cases n <;> rfl
    rw [this, h d List.mem_cons_self, ih fun x hx => h x (List.mem_cons_of_mem _ hx)]
    rfl
theorem CallTx.cln {d : D} {t : List Nat} (h : CallTx d t) : clean 1 d = true ∧ plain 1 d := by
  cases h with
  | mk x n hx n0 n1 =>
    refine ⟨?_, by simp, fun d hd => ?_⟩
    · show (clean 0 (.str x) && (clean 0 (.int n) && true)) = true
      rw [show Y.clean 0 (.str x) = true from az_clean hx.az]
      rfl
    · simp only [List.mem_cons, List.not_mem_nil, or_false] at hd
      rcases hd with z | z <;> subst z <;> trivial
theorem ItemTx.cln {d : D} {t : List Nat} (h : ItemTx d t) : clean 2 d = true ∧ plain 2 d := by
  cases h with
  | step n n0 n1 =>
    refine ⟨by rfl, by simp, fun d hd => ?_⟩
    simp only [List.mem_cons, List.not_mem_nil, or_false] at hd
    rcases hd with z | z <;> subst z <;> trivial
  | call n m x n0 n1 hx m0 m1 =>
    have c := (CallTx.mk x m hx m0 m1).cln
    refine ⟨?_, by simp, fun d hd => ?_⟩
    · show (Y.clean 1 (.str wCall) && (Y.clean 1 (.int n) && (Y.clean 1 (.tup [.str x, .int m]) && true))) = true
      rw [c.1]
      rfl
    · simp only [List.mem_cons, List.not_mem_nil, or_false] at hd
      rcases hd with z | z | z <;> subst z
      · trivial
      · trivial
      · exact c.2
theorem plain_mono : ∀ (n : Nat) (d : D), plain n d → plain (n + 1) d
  | n, .int _, _ => by cases n <;> trivial
  | n, .str _, _ => by cases n <;> trivial
  | n + 1, .tup ds, h => ⟨h.1, fun d hd => plain_mono n d (h.2 d hd)⟩
  | 0, .tup ds, h => by cases h
  | n, .non, h => by cases n <;> cases h
  | n, .bl _, h => by cases n <;> cases h
  | n, .ref _, h => by cases n <;> cases h
  | n, .kon _, h => by cases n <;> cases h
theorem callline' {k : Nat} {d : D} {t : List Nat} {st : Store} {Q : QE} {X : QX} (h : CallTx d t) (hq : Q (.str t) st) : Call T (k + 1) 20 [d] st Q X := by
  cases h with
  | mk x n hx n0 n1 => exact callline hx n0 n1 hq
theorem itemline' {k : Nat} {d : D} {t : List Nat} {st : Store} {Q : QE} {X : QX} (h : ItemTx d t) (hq : Q (.str t) st) : Call T (k + 2) 21 [d] st Q X := by
  cases h with
  | step n n0 n1 => exact itemline1 n0 n1 hq
  | call n m x n0 n1 hx m0 m1 => exact itemline2 n0 n1 hx m0 m1 hq
mutual
theorem clean_mono : ∀ (n : Nat) (d : D), clean n d = true → clean (n + 1) d = true
  | n, .int _, _ => by cases n <;> rfl
  | n, .non, _ => by cases n <;> rfl
  | n, .str _, h => by cases n <;> exact h
  | n + 1, .tup ds, h => cleans_mono n ds h
  | 0, .tup ds, h => by cases h
  | n, .bl _, h => by cases n <;> cases h
  | n, .ref _, h => by cases n <;> cases h
  | n, .kon _, h => by cases n <;> cases h
theorem cleans_mono : ∀ (n : Nat) (ds : List D), cleans n ds = true → cleans (n + 1) ds = true
  | n, [], _ => by rfl
  | n, d :: ds, h => by
    have h : (clean n d && cleans n ds) = true := h
    rw [Bool.and_eq_true] at h
    show (clean (n + 1) d && cleans (n + 1) ds) = true
    rw [clean_mono n d h.1, cleans_mono n ds h.2]
    rfl
end
theorem rowtext' {k r : Nat} {ps : List (D × List Nat)} {st : Store} {Q : QE} {X : QX} (e : st[r]? = some (.lst (ps.map Prod.fst))) (hp : ∀ p ∈ ps, CallTx p.1 p.2) (hl : ps.length ≤ 1000) (hs : ((ps.map Prod.snd).map List.length).sum + ps.length ≤ 1000000)
    (hq : Q (.str (TL.joinL [10] (ps.map Prod.snd))) (st ++ [.lst ((ps.map Prod.snd).map D.str)])) : Call T (k + 4) 6 [.ref r] st Q X := by
  refine rowtext e hp hl hs ?_
  rw [List.map_map] at hq
  exact hq
theorem lawrow {k r : Nat} {ps : List (D × List Nat)} {st : Store} {Q : QE} {X : QX} (e : st[r]? = some (.lst (ps.map Prod.fst))) (hp : ∀ p ∈ ps, CallTx p.1 p.2) (hl : ps.length ≤ 400) (hq : ∀ s, Keep st s → Q (.bl true) s) : Call T (k + 7) 24 [.ref r] st Q X := by
  refine call_z f__law_row.fn rfl rfl ?_
  show wpB T (Call T (k + 6)) none b__law_row [some (.ref r), none, none, none, none, none] st _
  unfold b__law_row
  have pl : ∀ d ∈ ps.map Prod.fst, clean 2 d = true ∧ plain 2 d := fun d hd => by
    obtain ⟨p, hm, rfl⟩ := List.mem_map.mp hd
    exact ⟨by have c := (hp p hm).cln.1; exact clean_mono _ _ c, plain_mono _ _ (hp p hm).cln.2⟩
  have pl3 : plain 3 (.tup (ps.map Prod.fst)) := ⟨by simp; omega, fun d hd => (pl d hd).2⟩
  have sum : ((ps.map Prod.snd).map List.length).sum ≤ 20 * ps.length := by
    have := sum_le (ys := ps.map Prod.snd) (m := 20) fun y hy => by
      obtain ⟨p, hm, rfl⟩ := List.mem_map.mp hy
      exact (hp p hm).fits.2.2.2
    rw [List.length_map] at this
    exact this
  have tl := joinL_len [10] (ps.map Prod.snd)
  simp only [List.length_map, List.length_cons, List.length_nil] at tl
  have cl := cleans_of fun d hd => (pl d hd).1
  simp (implicitDefEqProofs := false) (dsimp := false) (failIfUnchanged := false) only [lz1, z_ifT, z_ifF, ks_nx, ks_rt, ks_bk, ks_ct, ks_xc, kl_nx, kl_rt, kl_bk, kl_ct, kl_xc, kc_nx, kc_rt, kc_xc, kt_nx, kt_rt, kt_bk, kt_ct, kt_xc, kh_nx, kh_rt, un_n, un_s, isNon_1, isNon_2, isNon_3, isNon_4, isNon_5, isNon_6, isNon_7, boolQ_1, intQ_1, optQ_1, lstQ_1, sqQ_1, sqQ_2, insQ_1, getIx_0, getIx_1, getIx_2, getIx_3, getIx_4, getIx_5, setIx_0, setIx_1, setIx_2, bindQ_nm, bindL_0, bindL_1, bindQ_tp, z_var, z_con, z_glo, z_bin, z_neg, z_cmp, z_chain, z_isN, z_notN, z_and, z_or, z_not, z_ife, z_call, z_make, methQ_1, z_meth, z_fld, z_pr, z_me, z_isi, z_idx, z_sli, z_abs0, z_tup, z_lst, z_fstr, z_efld, z_eisi, z_comp, z_Tcmp, z_Tchain, z_TisN, z_TnotN, z_Tand, z_Tor, z_Tnot, z_Ttv, z_nil, z_cons, z_Fnil, z_Fcons, z_Tsn, z_Ts1, z_rng1, int2Q_1, z_rng2, z_enm, z_zip, z_sq, z_Bnil, z_Bcons, z_asg, z_asgt, z_asg2, z_setf, z_seti, augQ_1, augQ_2, z_augn, z_augf, z_exp, z_ret, z_retN, z_if, z_for, z_whl, z_brk, z_cnt, z_pas, z_rais0, z_rais1, z_try, z_Hnil, z_Hcons, v_v0, v_vs, v_add, v_sub, v_mul, v_fdiv, v_mod, v_pow, v_sadd, v_tadd, v_ladd, v_lmul, v_int, v_intb, v_abs, v_max2, v_min2, v_stri, v_lens, v_lent, v_lenr, v_tupt, v_tupr, v_lstt, v_lstr, v_any, v_all, v_ixt, v_ixr, v_seti, v_pts, v_ptn, v_sls, v_slt, v_slr, v_fld, v_setf, v_okl, v_oks, v_app, v_pop, v_lt, v_le, v_gt, v_ge, v_eq, v_ne, v_in, v_ni, v_eqii, v_eqss, v_eqbb, v_eqsi, v_eqis, v_eqni, v_eqin, v_eqns, v_eqsn, v_trn, v_trb, v_tri, v_trt, v_trr, v_trs, v_fms, v_fmi, v_inp, v_inl, v_ins, t_n, t_b, t_i, t_s, t_t, t_r, tyO_1, tyO_2, tyO_3, tyO_4, y_n, y_b, y_i, y_s, y_t, y_l, y_d, y_o, y_o1, y_o2, y_o3, y_o4, y_o5, y_o6, w_t, w_s, w_r, w_e, w_zt, List.map_cons, List.map_nil, List.replicate_succ, List.replicate_zero, List.cons_append, List.nil_append, List.append_nil, List.set_cons_zero, List.set_cons_succ, List.any_cons, List.any_nil, List.lookup_cons_self, meT, reduceCtorEq, decide_true, decide_false, Bool.or_false, Bool.false_or, Bool.or_true, Bool.true_or, Bool.not_true, Bool.not_false, Bool.and_true, Bool.true_and, Bool.and_false, Bool.false_and, true_and, and_true, wipeE, List.getElem?_concat_length, e]
  rw [show (List.length st) = st.length from rfl]
  generalize hg : st.length = g
  have eg : (st ++ [O.lst (ps.map Prod.fst)])[g]? = some (.lst (ps.map Prod.fst)) := by rw [← hg]; exact get_snoc _ _
  have er := get_app [O.lst (ps.map Prod.fst)] e
  have k1 : Keep st (st ++ [O.lst (ps.map Prod.fst)]) := .new _ _
  generalize st ++ [O.lst (ps.map Prod.fst)] = s1 at eg er k1 ⊢
  have lg : g < s1.length := lt_of_get eg
  have gr : g ≠ r := by rw [← hg]; exact Nat.ne_of_gt (lt_of_get e)
  have gst : st.length ≤ g := by omega
  clear hg
  simp (implicitDefEqProofs := false) (dsimp := false) (failIfUnchanged := false) only [lz1, z_ifT, z_ifF, ks_nx, ks_rt, ks_bk, ks_ct, ks_xc, kl_nx, kl_rt, kl_bk, kl_ct, kl_xc, kc_nx, kc_rt, kc_xc, kt_nx, kt_rt, kt_bk, kt_ct, kt_xc, kh_nx, kh_rt, un_n, un_s, isNon_1, isNon_2, isNon_3, isNon_4, isNon_5, isNon_6, isNon_7, boolQ_1, intQ_1, optQ_1, lstQ_1, sqQ_1, sqQ_2, insQ_1, getIx_0, getIx_1, getIx_2, getIx_3, getIx_4, getIx_5, setIx_0, setIx_1, setIx_2, bindQ_nm, bindL_0, bindL_1, bindQ_tp, z_var, z_con, z_glo, z_bin, z_neg, z_cmp, z_chain, z_isN, z_notN, z_and, z_or, z_not, z_ife, z_call, z_make, methQ_1, z_meth, z_fld, z_pr, z_me, z_isi, z_idx, z_sli, z_abs0, z_tup, z_lst, z_fstr, z_efld, z_eisi, z_comp, z_Tcmp, z_Tchain, z_TisN, z_TnotN, z_Tand, z_Tor, z_Tnot, z_Ttv, z_nil, z_cons, z_Fnil, z_Fcons, z_Tsn, z_Ts1, z_rng1, int2Q_1, z_rng2, z_enm, z_zip, z_sq, z_Bnil, z_Bcons, z_asg, z_asgt, z_asg2, z_setf, z_seti, augQ_1, augQ_2, z_augn, z_augf, z_exp, z_ret, z_retN, z_if, z_for, z_whl, z_brk, z_cnt, z_pas, z_rais0, z_rais1, z_try, z_Hnil, z_Hcons, v_v0, v_vs, v_add, v_sub, v_mul, v_fdiv, v_mod, v_pow, v_sadd, v_tadd, v_ladd, v_lmul, v_int, v_intb, v_abs, v_max2, v_min2, v_stri, v_lens, v_lent, v_lenr, v_tupt, v_tupr, v_lstt, v_lstr, v_any, v_all, v_ixt, v_ixr, v_seti, v_pts, v_ptn, v_sls, v_slt, v_slr, v_fld, v_setf, v_okl, v_oks, v_app, v_pop, v_lt, v_le, v_gt, v_ge, v_eq, v_ne, v_in, v_ni, v_eqii, v_eqss, v_eqbb, v_eqsi, v_eqis, v_eqni, v_eqin, v_eqns, v_eqsn, v_trn, v_trb, v_tri, v_trt, v_trr, v_trs, v_fms, v_fmi, v_inp, v_inl, v_ins, t_n, t_b, t_i, t_s, t_t, t_r, tyO_1, tyO_2, tyO_3, tyO_4, y_n, y_b, y_i, y_s, y_t, y_l, y_d, y_o, y_o1, y_o2, y_o3, y_o4, y_o5, y_o6, w_t, w_s, w_r, w_e, w_zt, List.map_cons, List.map_nil, List.replicate_succ, List.replicate_zero, List.cons_append, List.nil_append, List.append_nil, List.set_cons_zero, List.set_cons_succ, List.any_cons, List.any_nil, List.lookup_cons_self, meT, reduceCtorEq, decide_true, decide_false, Bool.or_false, Bool.false_or, Bool.or_true, Bool.true_or, Bool.not_true, Bool.not_false, Bool.and_true, Bool.true_and, Bool.and_false, Bool.false_and, true_and, and_true, wipeE, List.getElem?_concat_length, er]
  refine cmp_l (ds := ps.map Prod.fst) (fun r' acc s => ∃ done qs, ps = done ++ qs ∧ r' = qs.map Prod.fst ∧ acc = (done.map Prod.snd).map D.str ∧ s = s1 ++ [.lst acc]) ⟨[], ps, rfl, rfl, rfl, rfl⟩ (fun r' acc s ⟨done, qs, e1, e2, e3, e4⟩ => ?_) (fun d r' acc s N ⟨done, qs, e1, e2, e3, e4⟩ hN => ?_) (fun acc s ⟨done, qs, e1, e2, e3, e4⟩ => ?_)
  · rw [e4, get_app _ er]
    rfl
  · subst e4
    cases qs with
    | nil => cases e2
    | cons q qs =>
      cases e2
      simp (implicitDefEqProofs := false) (dsimp := false) (failIfUnchanged := false) only [lz1, z_ifT, z_ifF, ks_nx, ks_rt, ks_bk, ks_ct, ks_xc, kl_nx, kl_rt, kl_bk, kl_ct, kl_xc, kc_nx, kc_rt, kc_xc, kt_nx, kt_rt, kt_bk, kt_ct, kt_xc, kh_nx, kh_rt, un_n, un_s, isNon_1, isNon_2, isNon_3, isNon_4, isNon_5, isNon_6, isNon_7, boolQ_1, intQ_1, optQ_1, lstQ_1, sqQ_1, sqQ_2, insQ_1, getIx_0, getIx_1, getIx_2, getIx_3, getIx_4, getIx_5, setIx_0, setIx_1, setIx_2, bindQ_nm, bindL_0, bindL_1, bindQ_tp, z_var, z_con, z_glo, z_bin, z_neg, z_cmp, z_chain, z_isN, z_notN, z_and, z_or, z_not, z_ife, z_call, z_make, methQ_1, z_meth, z_fld, z_pr, z_me, z_isi, z_idx, z_sli, z_abs0, z_tup, z_lst, z_fstr, z_efld, z_eisi, z_comp, z_Tcmp, z_Tchain, z_TisN, z_TnotN, z_Tand, z_Tor, z_Tnot, z_Ttv, z_nil, z_cons, z_Fnil, z_Fcons, z_Tsn, z_Ts1, z_rng1, int2Q_1, z_rng2, z_enm, z_zip, z_sq, z_Bnil, z_Bcons, z_asg, z_asgt, z_asg2, z_setf, z_seti, augQ_1, augQ_2, z_augn, z_augf, z_exp, z_ret, z_retN, z_if, z_for, z_whl, z_brk, z_cnt, z_pas, z_rais0, z_rais1, z_try, z_Hnil, z_Hcons, v_v0, v_vs, v_add, v_sub, v_mul, v_fdiv, v_mod, v_pow, v_sadd, v_tadd, v_ladd, v_lmul, v_int, v_intb, v_abs, v_max2, v_min2, v_stri, v_lens, v_lent, v_lenr, v_tupt, v_tupr, v_lstt, v_lstr, v_any, v_all, v_ixt, v_ixr, v_seti, v_pts, v_ptn, v_sls, v_slt, v_slr, v_fld, v_setf, v_okl, v_oks, v_app, v_pop, v_lt, v_le, v_gt, v_ge, v_eq, v_ne, v_in, v_ni, v_eqii, v_eqss, v_eqbb, v_eqsi, v_eqis, v_eqni, v_eqin, v_eqns, v_eqsn, v_trn, v_trb, v_tri, v_trt, v_trr, v_trs, v_fms, v_fmi, v_inp, v_inl, v_ins, t_n, t_b, t_i, t_s, t_t, t_r, tyO_1, tyO_2, tyO_3, tyO_4, y_n, y_b, y_i, y_s, y_t, y_l, y_d, y_o, y_o1, y_o2, y_o3, y_o4, y_o5, y_o6, w_t, w_s, w_r, w_e, w_zt, List.map_cons, List.map_nil, List.replicate_succ, List.replicate_zero, List.cons_append, List.nil_append, List.append_nil, List.set_cons_zero, List.set_cons_succ, List.any_cons, List.any_nil, List.lookup_cons_self, meT, reduceCtorEq, decide_true, decide_false, Bool.or_false, Bool.false_or, Bool.or_true, Bool.true_or, Bool.not_true, Bool.not_false, Bool.and_true, Bool.true_and, Bool.and_false, Bool.false_and, true_and, and_true, wipeE, List.getElem?_concat_length]
      refine callline' (hp q (by rw [e1]; simp)) ?_
      simp (implicitDefEqProofs := false) (dsimp := false) (failIfUnchanged := false) only [lz1, z_ifT, z_ifF, ks_nx, ks_rt, ks_bk, ks_ct, ks_xc, kl_nx, kl_rt, kl_bk, kl_ct, kl_xc, kc_nx, kc_rt, kc_xc, kt_nx, kt_rt, kt_bk, kt_ct, kt_xc, kh_nx, kh_rt, un_n, un_s, isNon_1, isNon_2, isNon_3, isNon_4, isNon_5, isNon_6, isNon_7, boolQ_1, intQ_1, optQ_1, lstQ_1, sqQ_1, sqQ_2, insQ_1, getIx_0, getIx_1, getIx_2, getIx_3, getIx_4, getIx_5, setIx_0, setIx_1, setIx_2, bindQ_nm, bindL_0, bindL_1, bindQ_tp, z_var, z_con, z_glo, z_bin, z_neg, z_cmp, z_chain, z_isN, z_notN, z_and, z_or, z_not, z_ife, z_call, z_make, methQ_1, z_meth, z_fld, z_pr, z_me, z_isi, z_idx, z_sli, z_abs0, z_tup, z_lst, z_fstr, z_efld, z_eisi, z_comp, z_Tcmp, z_Tchain, z_TisN, z_TnotN, z_Tand, z_Tor, z_Tnot, z_Ttv, z_nil, z_cons, z_Fnil, z_Fcons, z_Tsn, z_Ts1, z_rng1, int2Q_1, z_rng2, z_enm, z_zip, z_sq, z_Bnil, z_Bcons, z_asg, z_asgt, z_asg2, z_setf, z_seti, augQ_1, augQ_2, z_augn, z_augf, z_exp, z_ret, z_retN, z_if, z_for, z_whl, z_brk, z_cnt, z_pas, z_rais0, z_rais1, z_try, z_Hnil, z_Hcons, v_v0, v_vs, v_add, v_sub, v_mul, v_fdiv, v_mod, v_pow, v_sadd, v_tadd, v_ladd, v_lmul, v_int, v_intb, v_abs, v_max2, v_min2, v_stri, v_lens, v_lent, v_lenr, v_tupt, v_tupr, v_lstt, v_lstr, v_any, v_all, v_ixt, v_ixr, v_seti, v_pts, v_ptn, v_sls, v_slt, v_slr, v_fld, v_setf, v_okl, v_oks, v_app, v_pop, v_lt, v_le, v_gt, v_ge, v_eq, v_ne, v_in, v_ni, v_eqii, v_eqss, v_eqbb, v_eqsi, v_eqis, v_eqni, v_eqin, v_eqns, v_eqsn, v_trn, v_trb, v_tri, v_trt, v_trr, v_trs, v_fms, v_fmi, v_inp, v_inl, v_ins, t_n, t_b, t_i, t_s, t_t, t_r, tyO_1, tyO_2, tyO_3, tyO_4, y_n, y_b, y_i, y_s, y_t, y_l, y_d, y_o, y_o1, y_o2, y_o3, y_o4, y_o5, y_o6, w_t, w_s, w_r, w_e, w_zt, List.map_cons, List.map_nil, List.replicate_succ, List.replicate_zero, List.cons_append, List.nil_append, List.append_nil, List.set_cons_zero, List.set_cons_succ, List.any_cons, List.any_nil, List.lookup_cons_self, meT, reduceCtorEq, decide_true, decide_false, Bool.or_false, Bool.false_or, Bool.or_true, Bool.true_or, Bool.not_true, Bool.not_false, Bool.and_true, Bool.true_and, Bool.and_false, Bool.false_and, true_and, and_true, wipeE, List.getElem?_concat_length]
      refine ⟨lt_line (by rw [e3]; have := congrArg List.length e1; simp at this ⊢; omega), hN _ _ ⟨done ++ [q], qs, join_snoc e1, rfl, ?_, set_last _ _ _⟩⟩
      rw [e3]
      simp
  subst e4
  cases qs with
  | cons q qs => cases e2
  | nil =>
  rw [List.append_nil] at e1
  subst e1 e3
  simp (implicitDefEqProofs := false) (dsimp := false) (failIfUnchanged := false) only [lz1, z_ifT, z_ifF, ks_nx, ks_rt, ks_bk, ks_ct, ks_xc, kl_nx, kl_rt, kl_bk, kl_ct, kl_xc, kc_nx, kc_rt, kc_xc, kt_nx, kt_rt, kt_bk, kt_ct, kt_xc, kh_nx, kh_rt, un_n, un_s, isNon_1, isNon_2, isNon_3, isNon_4, isNon_5, isNon_6, isNon_7, boolQ_1, intQ_1, optQ_1, lstQ_1, sqQ_1, sqQ_2, insQ_1, getIx_0, getIx_1, getIx_2, getIx_3, getIx_4, getIx_5, setIx_0, setIx_1, setIx_2, bindQ_nm, bindL_0, bindL_1, bindQ_tp, z_var, z_con, z_glo, z_bin, z_neg, z_cmp, z_chain, z_isN, z_notN, z_and, z_or, z_not, z_ife, z_call, z_make, methQ_1, z_meth, z_fld, z_pr, z_me, z_isi, z_idx, z_sli, z_abs0, z_tup, z_lst, z_fstr, z_efld, z_eisi, z_comp, z_Tcmp, z_Tchain, z_TisN, z_TnotN, z_Tand, z_Tor, z_Tnot, z_Ttv, z_nil, z_cons, z_Fnil, z_Fcons, z_Tsn, z_Ts1, z_rng1, int2Q_1, z_rng2, z_enm, z_zip, z_sq, z_Bnil, z_Bcons, z_asg, z_asgt, z_asg2, z_setf, z_seti, augQ_1, augQ_2, z_augn, z_augf, z_exp, z_ret, z_retN, z_if, z_for, z_whl, z_brk, z_cnt, z_pas, z_rais0, z_rais1, z_try, z_Hnil, z_Hcons, v_v0, v_vs, v_add, v_sub, v_mul, v_fdiv, v_mod, v_pow, v_sadd, v_tadd, v_ladd, v_lmul, v_int, v_intb, v_abs, v_max2, v_min2, v_stri, v_lens, v_lent, v_lenr, v_tupt, v_tupr, v_lstt, v_lstr, v_any, v_all, v_ixt, v_ixr, v_seti, v_pts, v_ptn, v_sls, v_slt, v_slr, v_fld, v_setf, v_okl, v_oks, v_app, v_pop, v_lt, v_le, v_gt, v_ge, v_eq, v_ne, v_in, v_ni, v_eqii, v_eqss, v_eqbb, v_eqsi, v_eqis, v_eqni, v_eqin, v_eqns, v_eqsn, v_trn, v_trb, v_tri, v_trt, v_trr, v_trs, v_fms, v_fmi, v_inp, v_inl, v_ins, t_n, t_b, t_i, t_s, t_t, t_r, tyO_1, tyO_2, tyO_3, tyO_4, y_n, y_b, y_i, y_s, y_t, y_l, y_d, y_o, y_o1, y_o2, y_o3, y_o4, y_o5, y_o6, w_t, w_s, w_r, w_e, w_zt, List.map_cons, List.map_nil, List.replicate_succ, List.replicate_zero, List.cons_append, List.nil_append, List.append_nil, List.set_cons_zero, List.set_cons_succ, List.any_cons, List.any_nil, List.lookup_cons_self, meT, reduceCtorEq, decide_true, decide_false, Bool.or_false, Bool.false_or, Bool.or_true, Bool.true_or, Bool.not_true, Bool.not_false, Bool.and_true, Bool.true_and, Bool.and_false, Bool.false_and, true_and, and_true, wipeE, List.getElem?_concat_length]
  refine go_join (ys := ps.map Prod.snd) (seq_l (get_snoc _ _)) (by simp only [List.length_map, List.length_cons, List.length_nil]; omega) ?_
  generalize ht : TL.joinL [10] (ps.map Prod.snd) = tx at tl
  have eg2 := get_app [O.lst ((ps.map Prod.snd).map D.str)] eg
  have er2 := get_app [O.lst ((ps.map Prod.snd).map D.str)] er
  have k2 := k1.app [O.lst ((ps.map Prod.snd).map D.str)]
  generalize s1 ++ [O.lst ((ps.map Prod.snd).map D.str)] = s2 at eg2 er2 k2 ⊢
  simp (implicitDefEqProofs := false) (dsimp := false) (failIfUnchanged := false) only [lz1, z_ifT, z_ifF, ks_nx, ks_rt, ks_bk, ks_ct, ks_xc, kl_nx, kl_rt, kl_bk, kl_ct, kl_xc, kc_nx, kc_rt, kc_xc, kt_nx, kt_rt, kt_bk, kt_ct, kt_xc, kh_nx, kh_rt, un_n, un_s, isNon_1, isNon_2, isNon_3, isNon_4, isNon_5, isNon_6, isNon_7, boolQ_1, intQ_1, optQ_1, lstQ_1, sqQ_1, sqQ_2, insQ_1, getIx_0, getIx_1, getIx_2, getIx_3, getIx_4, getIx_5, setIx_0, setIx_1, setIx_2, bindQ_nm, bindL_0, bindL_1, bindQ_tp, z_var, z_con, z_glo, z_bin, z_neg, z_cmp, z_chain, z_isN, z_notN, z_and, z_or, z_not, z_ife, z_call, z_make, methQ_1, z_meth, z_fld, z_pr, z_me, z_isi, z_idx, z_sli, z_abs0, z_tup, z_lst, z_fstr, z_efld, z_eisi, z_comp, z_Tcmp, z_Tchain, z_TisN, z_TnotN, z_Tand, z_Tor, z_Tnot, z_Ttv, z_nil, z_cons, z_Fnil, z_Fcons, z_Tsn, z_Ts1, z_rng1, int2Q_1, z_rng2, z_enm, z_zip, z_sq, z_Bnil, z_Bcons, z_asg, z_asgt, z_asg2, z_setf, z_seti, augQ_1, augQ_2, z_augn, z_augf, z_exp, z_ret, z_retN, z_if, z_for, z_whl, z_brk, z_cnt, z_pas, z_rais0, z_rais1, z_try, z_Hnil, z_Hcons, v_v0, v_vs, v_add, v_sub, v_mul, v_fdiv, v_mod, v_pow, v_sadd, v_tadd, v_ladd, v_lmul, v_int, v_intb, v_abs, v_max2, v_min2, v_stri, v_lens, v_lent, v_lenr, v_tupt, v_tupr, v_lstt, v_lstr, v_any, v_all, v_ixt, v_ixr, v_seti, v_pts, v_ptn, v_sls, v_slt, v_slr, v_fld, v_setf, v_okl, v_oks, v_app, v_pop, v_lt, v_le, v_gt, v_ge, v_eq, v_ne, v_in, v_ni, v_eqii, v_eqss, v_eqbb, v_eqsi, v_eqis, v_eqni, v_eqin, v_eqns, v_eqsn, v_trn, v_trb, v_tri, v_trt, v_trr, v_trs, v_fms, v_fmi, v_inp, v_inl, v_ins, t_n, t_b, t_i, t_s, t_t, t_r, tyO_1, tyO_2, tyO_3, tyO_4, y_n, y_b, y_i, y_s, y_t, y_l, y_d, y_o, y_o1, y_o2, y_o3, y_o4, y_o5, y_o6, w_t, w_s, w_r, w_e, w_zt, List.map_cons, List.map_nil, List.replicate_succ, List.replicate_zero, List.cons_append, List.nil_append, List.append_nil, List.set_cons_zero, List.set_cons_succ, List.any_cons, List.any_nil, List.lookup_cons_self, meT, reduceCtorEq, decide_true, decide_false, Bool.or_false, Bool.false_or, Bool.or_true, Bool.true_or, Bool.not_true, Bool.not_false, Bool.and_true, Bool.true_and, Bool.and_false, Bool.false_and, true_and, and_true, wipeE, List.getElem?_concat_length]
  refine rowtext' eg2 hp (by omega) (by omega) ?_
  rw [ht]
  have eg3 := get_app [O.lst ((ps.map Prod.snd).map D.str)] eg2
  have er3 := get_app [O.lst ((ps.map Prod.snd).map D.str)] er2
  have k3 := k2.app [O.lst ((ps.map Prod.snd).map D.str)]
  generalize s2 ++ [O.lst ((ps.map Prod.snd).map D.str)] = s3 at eg3 er3 k3 ⊢
  simp (implicitDefEqProofs := false) (dsimp := false) (failIfUnchanged := false) only [lz1, z_ifT, z_ifF, ks_nx, ks_rt, ks_bk, ks_ct, ks_xc, kl_nx, kl_rt, kl_bk, kl_ct, kl_xc, kc_nx, kc_rt, kc_xc, kt_nx, kt_rt, kt_bk, kt_ct, kt_xc, kh_nx, kh_rt, un_n, un_s, isNon_1, isNon_2, isNon_3, isNon_4, isNon_5, isNon_6, isNon_7, boolQ_1, intQ_1, optQ_1, lstQ_1, sqQ_1, sqQ_2, insQ_1, getIx_0, getIx_1, getIx_2, getIx_3, getIx_4, getIx_5, setIx_0, setIx_1, setIx_2, bindQ_nm, bindL_0, bindL_1, bindQ_tp, z_var, z_con, z_glo, z_bin, z_neg, z_cmp, z_chain, z_isN, z_notN, z_and, z_or, z_not, z_ife, z_call, z_make, methQ_1, z_meth, z_fld, z_pr, z_me, z_isi, z_idx, z_sli, z_abs0, z_tup, z_lst, z_fstr, z_efld, z_eisi, z_comp, z_Tcmp, z_Tchain, z_TisN, z_TnotN, z_Tand, z_Tor, z_Tnot, z_Ttv, z_nil, z_cons, z_Fnil, z_Fcons, z_Tsn, z_Ts1, z_rng1, int2Q_1, z_rng2, z_enm, z_zip, z_sq, z_Bnil, z_Bcons, z_asg, z_asgt, z_asg2, z_setf, z_seti, augQ_1, augQ_2, z_augn, z_augf, z_exp, z_ret, z_retN, z_if, z_for, z_whl, z_brk, z_cnt, z_pas, z_rais0, z_rais1, z_try, z_Hnil, z_Hcons, v_v0, v_vs, v_add, v_sub, v_mul, v_fdiv, v_mod, v_pow, v_sadd, v_tadd, v_ladd, v_lmul, v_int, v_intb, v_abs, v_max2, v_min2, v_stri, v_lens, v_lent, v_lenr, v_tupt, v_tupr, v_lstt, v_lstr, v_any, v_all, v_ixt, v_ixr, v_seti, v_pts, v_ptn, v_sls, v_slt, v_slr, v_fld, v_setf, v_okl, v_oks, v_app, v_pop, v_lt, v_le, v_gt, v_ge, v_eq, v_ne, v_in, v_ni, v_eqii, v_eqss, v_eqbb, v_eqsi, v_eqis, v_eqni, v_eqin, v_eqns, v_eqsn, v_trn, v_trb, v_tri, v_trt, v_trr, v_trs, v_fms, v_fmi, v_inp, v_inl, v_ins, t_n, t_b, t_i, t_s, t_t, t_r, tyO_1, tyO_2, tyO_3, tyO_4, y_n, y_b, y_i, y_s, y_t, y_l, y_d, y_o, y_o1, y_o2, y_o3, y_o4, y_o5, y_o6, w_t, w_s, w_r, w_e, w_zt, List.map_cons, List.map_nil, List.replicate_succ, List.replicate_zero, List.cons_append, List.nil_append, List.append_nil, List.set_cons_zero, List.set_cons_succ, List.any_cons, List.any_nil, List.lookup_cons_self, meT, reduceCtorEq, decide_true, decide_false, Bool.or_false, Bool.false_or, Bool.or_true, Bool.true_or, Bool.not_true, Bool.not_false, Bool.and_true, Bool.true_and, Bool.and_false, Bool.false_and, true_and, and_true, wipeE, List.getElem?_concat_length]
  refine eqQ_lists (n := 2) (m := 2) eg3 er3 cl cl (by decide) (by decide) ?_
  simp (implicitDefEqProofs := false) (dsimp := false) (failIfUnchanged := false) only [lz1, z_ifT, z_ifF, ks_nx, ks_rt, ks_bk, ks_ct, ks_xc, kl_nx, kl_rt, kl_bk, kl_ct, kl_xc, kc_nx, kc_rt, kc_xc, kt_nx, kt_rt, kt_bk, kt_ct, kt_xc, kh_nx, kh_rt, un_n, un_s, isNon_1, isNon_2, isNon_3, isNon_4, isNon_5, isNon_6, isNon_7, boolQ_1, intQ_1, optQ_1, lstQ_1, sqQ_1, sqQ_2, insQ_1, getIx_0, getIx_1, getIx_2, getIx_3, getIx_4, getIx_5, setIx_0, setIx_1, setIx_2, bindQ_nm, bindL_0, bindL_1, bindQ_tp, z_var, z_con, z_glo, z_bin, z_neg, z_cmp, z_chain, z_isN, z_notN, z_and, z_or, z_not, z_ife, z_call, z_make, methQ_1, z_meth, z_fld, z_pr, z_me, z_isi, z_idx, z_sli, z_abs0, z_tup, z_lst, z_fstr, z_efld, z_eisi, z_comp, z_Tcmp, z_Tchain, z_TisN, z_TnotN, z_Tand, z_Tor, z_Tnot, z_Ttv, z_nil, z_cons, z_Fnil, z_Fcons, z_Tsn, z_Ts1, z_rng1, int2Q_1, z_rng2, z_enm, z_zip, z_sq, z_Bnil, z_Bcons, z_asg, z_asgt, z_asg2, z_setf, z_seti, augQ_1, augQ_2, z_augn, z_augf, z_exp, z_ret, z_retN, z_if, z_for, z_whl, z_brk, z_cnt, z_pas, z_rais0, z_rais1, z_try, z_Hnil, z_Hcons, v_v0, v_vs, v_add, v_sub, v_mul, v_fdiv, v_mod, v_pow, v_sadd, v_tadd, v_ladd, v_lmul, v_int, v_intb, v_abs, v_max2, v_min2, v_stri, v_lens, v_lent, v_lenr, v_tupt, v_tupr, v_lstt, v_lstr, v_any, v_all, v_ixt, v_ixr, v_seti, v_pts, v_ptn, v_sls, v_slt, v_slr, v_fld, v_setf, v_okl, v_oks, v_app, v_pop, v_lt, v_le, v_gt, v_ge, v_eq, v_ne, v_in, v_ni, v_eqii, v_eqss, v_eqbb, v_eqsi, v_eqis, v_eqni, v_eqin, v_eqns, v_eqsn, v_trn, v_trb, v_tri, v_trt, v_trr, v_trs, v_fms, v_fmi, v_inp, v_inl, v_ins, t_n, t_b, t_i, t_s, t_t, t_r, tyO_1, tyO_2, tyO_3, tyO_4, y_n, y_b, y_i, y_s, y_t, y_l, y_d, y_o, y_o1, y_o2, y_o3, y_o4, y_o5, y_o6, w_t, w_s, w_r, w_e, w_zt, List.map_cons, List.map_nil, List.replicate_succ, List.replicate_zero, List.cons_append, List.nil_append, List.append_nil, List.set_cons_zero, List.set_cons_succ, List.any_cons, List.any_nil, List.lookup_cons_self, meT, reduceCtorEq, decide_true, decide_false, Bool.or_false, Bool.false_or, Bool.or_true, Bool.true_or, Bool.not_true, Bool.not_false, Bool.and_true, Bool.true_and, Bool.and_false, Bool.false_and, true_and, and_true, wipeE, List.getElem?_concat_length]
  refine readrow ht.symm hp (by omega) (by omega) fun rest => ?_
  generalize hb : s3.length = b
  have eb4 : (s3 ++ [O.lst (ps.map Prod.fst)] ++ rest)[b]? = some (.lst (ps.map Prod.fst)) := by rw [← hb]; exact get_snoc2 _ _ _
  have eg4 := get_app rest (get_app [O.lst (ps.map Prod.fst)] eg3)
  have er4 := get_app rest (get_app [O.lst (ps.map Prod.fst)] er3)
  have k4 := (k3.app [O.lst (ps.map Prod.fst)]).app rest
  generalize s3 ++ [O.lst (ps.map Prod.fst)] ++ rest = s4 at eb4 eg4 er4 k4 ⊢
  have bg : b ≠ g := by have := lt_of_get eg3; omega
  have br : b ≠ r := by have := lt_of_get er3; omega
  have bst : st.length ≤ b := by have := k3.len; omega
  clear hb
  simp (implicitDefEqProofs := false) (dsimp := false) (failIfUnchanged := false) only [lz1, z_ifT, z_ifF, ks_nx, ks_rt, ks_bk, ks_ct, ks_xc, kl_nx, kl_rt, kl_bk, kl_ct, kl_xc, kc_nx, kc_rt, kc_xc, kt_nx, kt_rt, kt_bk, kt_ct, kt_xc, kh_nx, kh_rt, un_n, un_s, isNon_1, isNon_2, isNon_3, isNon_4, isNon_5, isNon_6, isNon_7, boolQ_1, intQ_1, optQ_1, lstQ_1, sqQ_1, sqQ_2, insQ_1, getIx_0, getIx_1, getIx_2, getIx_3, getIx_4, getIx_5, setIx_0, setIx_1, setIx_2, bindQ_nm, bindL_0, bindL_1, bindQ_tp, z_var, z_con, z_glo, z_bin, z_neg, z_cmp, z_chain, z_isN, z_notN, z_and, z_or, z_not, z_ife, z_call, z_make, methQ_1, z_meth, z_fld, z_pr, z_me, z_isi, z_idx, z_sli, z_abs0, z_tup, z_lst, z_fstr, z_efld, z_eisi, z_comp, z_Tcmp, z_Tchain, z_TisN, z_TnotN, z_Tand, z_Tor, z_Tnot, z_Ttv, z_nil, z_cons, z_Fnil, z_Fcons, z_Tsn, z_Ts1, z_rng1, int2Q_1, z_rng2, z_enm, z_zip, z_sq, z_Bnil, z_Bcons, z_asg, z_asgt, z_asg2, z_setf, z_seti, augQ_1, augQ_2, z_augn, z_augf, z_exp, z_ret, z_retN, z_if, z_for, z_whl, z_brk, z_cnt, z_pas, z_rais0, z_rais1, z_try, z_Hnil, z_Hcons, v_v0, v_vs, v_add, v_sub, v_mul, v_fdiv, v_mod, v_pow, v_sadd, v_tadd, v_ladd, v_lmul, v_int, v_intb, v_abs, v_max2, v_min2, v_stri, v_lens, v_lent, v_lenr, v_tupt, v_tupr, v_lstt, v_lstr, v_any, v_all, v_ixt, v_ixr, v_seti, v_pts, v_ptn, v_sls, v_slt, v_slr, v_fld, v_setf, v_okl, v_oks, v_app, v_pop, v_lt, v_le, v_gt, v_ge, v_eq, v_ne, v_in, v_ni, v_eqii, v_eqss, v_eqbb, v_eqsi, v_eqis, v_eqni, v_eqin, v_eqns, v_eqsn, v_trn, v_trb, v_tri, v_trt, v_trr, v_trs, v_fms, v_fmi, v_inp, v_inl, v_ins, t_n, t_b, t_i, t_s, t_t, t_r, tyO_1, tyO_2, tyO_3, tyO_4, y_n, y_b, y_i, y_s, y_t, y_l, y_d, y_o, y_o1, y_o2, y_o3, y_o4, y_o5, y_o6, w_t, w_s, w_r, w_e, w_zt, List.map_cons, List.map_nil, List.replicate_succ, List.replicate_zero, List.cons_append, List.nil_append, List.append_nil, List.set_cons_zero, List.set_cons_succ, List.any_cons, List.any_nil, List.lookup_cons_self, meT, reduceCtorEq, decide_true, decide_false, Bool.or_false, Bool.false_or, Bool.or_true, Bool.true_or, Bool.not_true, Bool.not_false, Bool.and_true, Bool.true_and, Bool.and_false, Bool.false_and, true_and, and_true, wipeE, List.getElem?_concat_length]
  refine islist eb4 er4 pl3 fun s5 h5 => ?_
  have eb5 := h5.get eb4
  have eg5 := h5.get eg4
  have er5 := h5.get er4
  have k5 := k4.trans h5
  simp (implicitDefEqProofs := false) (dsimp := false) (failIfUnchanged := false) only [lz1, z_ifT, z_ifF, ks_nx, ks_rt, ks_bk, ks_ct, ks_xc, kl_nx, kl_rt, kl_bk, kl_ct, kl_xc, kc_nx, kc_rt, kc_xc, kt_nx, kt_rt, kt_bk, kt_ct, kt_xc, kh_nx, kh_rt, un_n, un_s, isNon_1, isNon_2, isNon_3, isNon_4, isNon_5, isNon_6, isNon_7, boolQ_1, intQ_1, optQ_1, lstQ_1, sqQ_1, sqQ_2, insQ_1, getIx_0, getIx_1, getIx_2, getIx_3, getIx_4, getIx_5, setIx_0, setIx_1, setIx_2, bindQ_nm, bindL_0, bindL_1, bindQ_tp, z_var, z_con, z_glo, z_bin, z_neg, z_cmp, z_chain, z_isN, z_notN, z_and, z_or, z_not, z_ife, z_call, z_make, methQ_1, z_meth, z_fld, z_pr, z_me, z_isi, z_idx, z_sli, z_abs0, z_tup, z_lst, z_fstr, z_efld, z_eisi, z_comp, z_Tcmp, z_Tchain, z_TisN, z_TnotN, z_Tand, z_Tor, z_Tnot, z_Ttv, z_nil, z_cons, z_Fnil, z_Fcons, z_Tsn, z_Ts1, z_rng1, int2Q_1, z_rng2, z_enm, z_zip, z_sq, z_Bnil, z_Bcons, z_asg, z_asgt, z_asg2, z_setf, z_seti, augQ_1, augQ_2, z_augn, z_augf, z_exp, z_ret, z_retN, z_if, z_for, z_whl, z_brk, z_cnt, z_pas, z_rais0, z_rais1, z_try, z_Hnil, z_Hcons, v_v0, v_vs, v_add, v_sub, v_mul, v_fdiv, v_mod, v_pow, v_sadd, v_tadd, v_ladd, v_lmul, v_int, v_intb, v_abs, v_max2, v_min2, v_stri, v_lens, v_lent, v_lenr, v_tupt, v_tupr, v_lstt, v_lstr, v_any, v_all, v_ixt, v_ixr, v_seti, v_pts, v_ptn, v_sls, v_slt, v_slr, v_fld, v_setf, v_okl, v_oks, v_app, v_pop, v_lt, v_le, v_gt, v_ge, v_eq, v_ne, v_in, v_ni, v_eqii, v_eqss, v_eqbb, v_eqsi, v_eqis, v_eqni, v_eqin, v_eqns, v_eqsn, v_trn, v_trb, v_tri, v_trt, v_trr, v_trs, v_fms, v_fmi, v_inp, v_inl, v_ins, t_n, t_b, t_i, t_s, t_t, t_r, tyO_1, tyO_2, tyO_3, tyO_4, y_n, y_b, y_i, y_s, y_t, y_l, y_d, y_o, y_o1, y_o2, y_o3, y_o4, y_o5, y_o6, w_t, w_s, w_r, w_e, w_zt, List.map_cons, List.map_nil, List.replicate_succ, List.replicate_zero, List.cons_append, List.nil_append, List.append_nil, List.set_cons_zero, List.set_cons_succ, List.any_cons, List.any_nil, List.lookup_cons_self, meT, reduceCtorEq, decide_true, decide_false, Bool.or_false, Bool.false_or, Bool.or_true, Bool.true_or, Bool.not_true, Bool.not_false, Bool.and_true, Bool.true_and, Bool.and_false, Bool.false_and, true_and, and_true, wipeE, List.getElem?_concat_length, eb5]
  refine ⟨lt_line (by simp; omega), ?_⟩
  generalize hs6 : s5.set b _ = s6
  have eg6 : s6[g]? = some (.lst (ps.map Prod.fst)) := by rw [← hs6]; exact get_set eg5 bg
  have er6 : s6[r]? = some (.lst (ps.map Prod.fst)) := by rw [← hs6]; exact get_set er5 br
  have k6 : Keep st s6 := by rw [← hs6]; exact k5.set _ bst
  clear hs6
  simp (implicitDefEqProofs := false) (dsimp := false) (failIfUnchanged := false) only [lz1, z_ifT, z_ifF, ks_nx, ks_rt, ks_bk, ks_ct, ks_xc, kl_nx, kl_rt, kl_bk, kl_ct, kl_xc, kc_nx, kc_rt, kc_xc, kt_nx, kt_rt, kt_bk, kt_ct, kt_xc, kh_nx, kh_rt, un_n, un_s, isNon_1, isNon_2, isNon_3, isNon_4, isNon_5, isNon_6, isNon_7, boolQ_1, intQ_1, optQ_1, lstQ_1, sqQ_1, sqQ_2, insQ_1, getIx_0, getIx_1, getIx_2, getIx_3, getIx_4, getIx_5, setIx_0, setIx_1, setIx_2, bindQ_nm, bindL_0, bindL_1, bindQ_tp, z_var, z_con, z_glo, z_bin, z_neg, z_cmp, z_chain, z_isN, z_notN, z_and, z_or, z_not, z_ife, z_call, z_make, methQ_1, z_meth, z_fld, z_pr, z_me, z_isi, z_idx, z_sli, z_abs0, z_tup, z_lst, z_fstr, z_efld, z_eisi, z_comp, z_Tcmp, z_Tchain, z_TisN, z_TnotN, z_Tand, z_Tor, z_Tnot, z_Ttv, z_nil, z_cons, z_Fnil, z_Fcons, z_Tsn, z_Ts1, z_rng1, int2Q_1, z_rng2, z_enm, z_zip, z_sq, z_Bnil, z_Bcons, z_asg, z_asgt, z_asg2, z_setf, z_seti, augQ_1, augQ_2, z_augn, z_augf, z_exp, z_ret, z_retN, z_if, z_for, z_whl, z_brk, z_cnt, z_pas, z_rais0, z_rais1, z_try, z_Hnil, z_Hcons, v_v0, v_vs, v_add, v_sub, v_mul, v_fdiv, v_mod, v_pow, v_sadd, v_tadd, v_ladd, v_lmul, v_int, v_intb, v_abs, v_max2, v_min2, v_stri, v_lens, v_lent, v_lenr, v_tupt, v_tupr, v_lstt, v_lstr, v_any, v_all, v_ixt, v_ixr, v_seti, v_pts, v_ptn, v_sls, v_slt, v_slr, v_fld, v_setf, v_okl, v_oks, v_app, v_pop, v_lt, v_le, v_gt, v_ge, v_eq, v_ne, v_in, v_ni, v_eqii, v_eqss, v_eqbb, v_eqsi, v_eqis, v_eqni, v_eqin, v_eqns, v_eqsn, v_trn, v_trb, v_tri, v_trt, v_trr, v_trs, v_fms, v_fmi, v_inp, v_inl, v_ins, t_n, t_b, t_i, t_s, t_t, t_r, tyO_1, tyO_2, tyO_3, tyO_4, y_n, y_b, y_i, y_s, y_t, y_l, y_d, y_o, y_o1, y_o2, y_o3, y_o4, y_o5, y_o6, w_t, w_s, w_r, w_e, w_zt, List.map_cons, List.map_nil, List.replicate_succ, List.replicate_zero, List.cons_append, List.nil_append, List.append_nil, List.set_cons_zero, List.set_cons_succ, List.any_cons, List.any_nil, List.lookup_cons_self, meT, reduceCtorEq, decide_true, decide_false, Bool.or_false, Bool.false_or, Bool.or_true, Bool.true_or, Bool.not_true, Bool.not_false, Bool.and_true, Bool.true_and, Bool.and_false, Bool.false_and, true_and, and_true, wipeE, List.getElem?_concat_length, eg6]
  refine ⟨lt_line (by simp; omega), ?_⟩
  generalize hs7 : s6.set g _ = s7
  have er7 : s7[r]? = some (.lst (ps.map Prod.fst)) := by rw [← hs7]; exact get_set er6 gr
  have k7 : Keep st s7 := by rw [← hs7]; exact k6.set _ gst
  clear hs7
  simp (implicitDefEqProofs := false) (dsimp := false) (failIfUnchanged := false) only [lz1, z_ifT, z_ifF, ks_nx, ks_rt, ks_bk, ks_ct, ks_xc, kl_nx, kl_rt, kl_bk, kl_ct, kl_xc, kc_nx, kc_rt, kc_xc, kt_nx, kt_rt, kt_bk, kt_ct, kt_xc, kh_nx, kh_rt, un_n, un_s, isNon_1, isNon_2, isNon_3, isNon_4, isNon_5, isNon_6, isNon_7, boolQ_1, intQ_1, optQ_1, lstQ_1, sqQ_1, sqQ_2, insQ_1, getIx_0, getIx_1, getIx_2, getIx_3, getIx_4, getIx_5, setIx_0, setIx_1, setIx_2, bindQ_nm, bindL_0, bindL_1, bindQ_tp, z_var, z_con, z_glo, z_bin, z_neg, z_cmp, z_chain, z_isN, z_notN, z_and, z_or, z_not, z_ife, z_call, z_make, methQ_1, z_meth, z_fld, z_pr, z_me, z_isi, z_idx, z_sli, z_abs0, z_tup, z_lst, z_fstr, z_efld, z_eisi, z_comp, z_Tcmp, z_Tchain, z_TisN, z_TnotN, z_Tand, z_Tor, z_Tnot, z_Ttv, z_nil, z_cons, z_Fnil, z_Fcons, z_Tsn, z_Ts1, z_rng1, int2Q_1, z_rng2, z_enm, z_zip, z_sq, z_Bnil, z_Bcons, z_asg, z_asgt, z_asg2, z_setf, z_seti, augQ_1, augQ_2, z_augn, z_augf, z_exp, z_ret, z_retN, z_if, z_for, z_whl, z_brk, z_cnt, z_pas, z_rais0, z_rais1, z_try, z_Hnil, z_Hcons, v_v0, v_vs, v_add, v_sub, v_mul, v_fdiv, v_mod, v_pow, v_sadd, v_tadd, v_ladd, v_lmul, v_int, v_intb, v_abs, v_max2, v_min2, v_stri, v_lens, v_lent, v_lenr, v_tupt, v_tupr, v_lstt, v_lstr, v_any, v_all, v_ixt, v_ixr, v_seti, v_pts, v_ptn, v_sls, v_slt, v_slr, v_fld, v_setf, v_okl, v_oks, v_app, v_pop, v_lt, v_le, v_gt, v_ge, v_eq, v_ne, v_in, v_ni, v_eqii, v_eqss, v_eqbb, v_eqsi, v_eqis, v_eqni, v_eqin, v_eqns, v_eqsn, v_trn, v_trb, v_tri, v_trt, v_trr, v_trs, v_fms, v_fmi, v_inp, v_inl, v_ins, t_n, t_b, t_i, t_s, t_t, t_r, tyO_1, tyO_2, tyO_3, tyO_4, y_n, y_b, y_i, y_s, y_t, y_l, y_d, y_o, y_o1, y_o2, y_o3, y_o4, y_o5, y_o6, w_t, w_s, w_r, w_e, w_zt, List.map_cons, List.map_nil, List.replicate_succ, List.replicate_zero, List.cons_append, List.nil_append, List.append_nil, List.set_cons_zero, List.set_cons_succ, List.any_cons, List.any_nil, List.lookup_cons_self, meT, reduceCtorEq, decide_true, decide_false, Bool.or_false, Bool.false_or, Bool.or_true, Bool.true_or, Bool.not_true, Bool.not_false, Bool.and_true, Bool.true_and, Bool.and_false, Bool.false_and, true_and, and_true, wipeE, List.getElem?_concat_length]
  refine readrow ht.symm hp (by omega) (by omega) fun rest => ?_
  have eb8 : (s7 ++ [O.lst (ps.map Prod.fst)] ++ rest)[s7.length]? = some (.lst (ps.map Prod.fst)) := get_snoc2 _ _ _
  have er8 := get_app rest (get_app [O.lst (ps.map Prod.fst)] er7)
  have k8 := (k7.app [O.lst (ps.map Prod.fst)]).app rest
  generalize s7 ++ [O.lst (ps.map Prod.fst)] ++ rest = s8 at eb8 er8 k8 ⊢
  simp (implicitDefEqProofs := false) (dsimp := false) (failIfUnchanged := false) only [lz1, z_ifT, z_ifF, ks_nx, ks_rt, ks_bk, ks_ct, ks_xc, kl_nx, kl_rt, kl_bk, kl_ct, kl_xc, kc_nx, kc_rt, kc_xc, kt_nx, kt_rt, kt_bk, kt_ct, kt_xc, kh_nx, kh_rt, un_n, un_s, isNon_1, isNon_2, isNon_3, isNon_4, isNon_5, isNon_6, isNon_7, boolQ_1, intQ_1, optQ_1, lstQ_1, sqQ_1, sqQ_2, insQ_1, getIx_0, getIx_1, getIx_2, getIx_3, getIx_4, getIx_5, setIx_0, setIx_1, setIx_2, bindQ_nm, bindL_0, bindL_1, bindQ_tp, z_var, z_con, z_glo, z_bin, z_neg, z_cmp, z_chain, z_isN, z_notN, z_and, z_or, z_not, z_ife, z_call, z_make, methQ_1, z_meth, z_fld, z_pr, z_me, z_isi, z_idx, z_sli, z_abs0, z_tup, z_lst, z_fstr, z_efld, z_eisi, z_comp, z_Tcmp, z_Tchain, z_TisN, z_TnotN, z_Tand, z_Tor, z_Tnot, z_Ttv, z_nil, z_cons, z_Fnil, z_Fcons, z_Tsn, z_Ts1, z_rng1, int2Q_1, z_rng2, z_enm, z_zip, z_sq, z_Bnil, z_Bcons, z_asg, z_asgt, z_asg2, z_setf, z_seti, augQ_1, augQ_2, z_augn, z_augf, z_exp, z_ret, z_retN, z_if, z_for, z_whl, z_brk, z_cnt, z_pas, z_rais0, z_rais1, z_try, z_Hnil, z_Hcons, v_v0, v_vs, v_add, v_sub, v_mul, v_fdiv, v_mod, v_pow, v_sadd, v_tadd, v_ladd, v_lmul, v_int, v_intb, v_abs, v_max2, v_min2, v_stri, v_lens, v_lent, v_lenr, v_tupt, v_tupr, v_lstt, v_lstr, v_any, v_all, v_ixt, v_ixr, v_seti, v_pts, v_ptn, v_sls, v_slt, v_slr, v_fld, v_setf, v_okl, v_oks, v_app, v_pop, v_lt, v_le, v_gt, v_ge, v_eq, v_ne, v_in, v_ni, v_eqii, v_eqss, v_eqbb, v_eqsi, v_eqis, v_eqni, v_eqin, v_eqns, v_eqsn, v_trn, v_trb, v_tri, v_trt, v_trr, v_trs, v_fms, v_fmi, v_inp, v_inl, v_ins, t_n, t_b, t_i, t_s, t_t, t_r, tyO_1, tyO_2, tyO_3, tyO_4, y_n, y_b, y_i, y_s, y_t, y_l, y_d, y_o, y_o1, y_o2, y_o3, y_o4, y_o5, y_o6, w_t, w_s, w_r, w_e, w_zt, List.map_cons, List.map_nil, List.replicate_succ, List.replicate_zero, List.cons_append, List.nil_append, List.append_nil, List.set_cons_zero, List.set_cons_succ, List.any_cons, List.any_nil, List.lookup_cons_self, meT, reduceCtorEq, decide_true, decide_false, Bool.or_false, Bool.false_or, Bool.or_true, Bool.true_or, Bool.not_true, Bool.not_false, Bool.and_true, Bool.true_and, Bool.and_false, Bool.false_and, true_and, and_true, wipeE, List.getElem?_concat_length]
  refine islist eb8 er8 pl3 fun s9 h9 => ?_
  have er9 := h9.get er8
  have k9 := k8.trans h9
  simp (implicitDefEqProofs := false) (dsimp := false) (failIfUnchanged := false) only [lz1, z_ifT, z_ifF, ks_nx, ks_rt, ks_bk, ks_ct, ks_xc, kl_nx, kl_rt, kl_bk, kl_ct, kl_xc, kc_nx, kc_rt, kc_xc, kt_nx, kt_rt, kt_bk, kt_ct, kt_xc, kh_nx, kh_rt, un_n, un_s, isNon_1, isNon_2, isNon_3, isNon_4, isNon_5, isNon_6, isNon_7, boolQ_1, intQ_1, optQ_1, lstQ_1, sqQ_1, sqQ_2, insQ_1, getIx_0, getIx_1, getIx_2, getIx_3, getIx_4, getIx_5, setIx_0, setIx_1, setIx_2, bindQ_nm, bindL_0, bindL_1, bindQ_tp, z_var, z_con, z_glo, z_bin, z_neg, z_cmp, z_chain, z_isN, z_notN, z_and, z_or, z_not, z_ife, z_call, z_make, methQ_1, z_meth, z_fld, z_pr, z_me, z_isi, z_idx, z_sli, z_abs0, z_tup, z_lst, z_fstr, z_efld, z_eisi, z_comp, z_Tcmp, z_Tchain, z_TisN, z_TnotN, z_Tand, z_Tor, z_Tnot, z_Ttv, z_nil, z_cons, z_Fnil, z_Fcons, z_Tsn, z_Ts1, z_rng1, int2Q_1, z_rng2, z_enm, z_zip, z_sq, z_Bnil, z_Bcons, z_asg, z_asgt, z_asg2, z_setf, z_seti, augQ_1, augQ_2, z_augn, z_augf, z_exp, z_ret, z_retN, z_if, z_for, z_whl, z_brk, z_cnt, z_pas, z_rais0, z_rais1, z_try, z_Hnil, z_Hcons, v_v0, v_vs, v_add, v_sub, v_mul, v_fdiv, v_mod, v_pow, v_sadd, v_tadd, v_ladd, v_lmul, v_int, v_intb, v_abs, v_max2, v_min2, v_stri, v_lens, v_lent, v_lenr, v_tupt, v_tupr, v_lstt, v_lstr, v_any, v_all, v_ixt, v_ixr, v_seti, v_pts, v_ptn, v_sls, v_slt, v_slr, v_fld, v_setf, v_okl, v_oks, v_app, v_pop, v_lt, v_le, v_gt, v_ge, v_eq, v_ne, v_in, v_ni, v_eqii, v_eqss, v_eqbb, v_eqsi, v_eqis, v_eqni, v_eqin, v_eqns, v_eqsn, v_trn, v_trb, v_tri, v_trt, v_trr, v_trs, v_fms, v_fmi, v_inp, v_inl, v_ins, t_n, t_b, t_i, t_s, t_t, t_r, tyO_1, tyO_2, tyO_3, tyO_4, y_n, y_b, y_i, y_s, y_t, y_l, y_d, y_o, y_o1, y_o2, y_o3, y_o4, y_o5, y_o6, w_t, w_s, w_r, w_e, w_zt, List.map_cons, List.map_nil, List.replicate_succ, List.replicate_zero, List.cons_append, List.nil_append, List.append_nil, List.set_cons_zero, List.set_cons_succ, List.any_cons, List.any_nil, List.lookup_cons_self, meT, reduceCtorEq, decide_true, decide_false, Bool.or_false, Bool.false_or, Bool.or_true, Bool.true_or, Bool.not_true, Bool.not_false, Bool.and_true, Bool.true_and, Bool.and_false, Bool.false_and, true_and, and_true, wipeE, List.getElem?_concat_length, er9]
  refine rowtext' (get_snoc _ _) hp (by omega) (by omega) ?_
  rw [ht]
  simp (implicitDefEqProofs := false) (dsimp := false) (failIfUnchanged := false) only [lz1, z_ifT, z_ifF, ks_nx, ks_rt, ks_bk, ks_ct, ks_xc, kl_nx, kl_rt, kl_bk, kl_ct, kl_xc, kc_nx, kc_rt, kc_xc, kt_nx, kt_rt, kt_bk, kt_ct, kt_xc, kh_nx, kh_rt, un_n, un_s, isNon_1, isNon_2, isNon_3, isNon_4, isNon_5, isNon_6, isNon_7, boolQ_1, intQ_1, optQ_1, lstQ_1, sqQ_1, sqQ_2, insQ_1, getIx_0, getIx_1, getIx_2, getIx_3, getIx_4, getIx_5, setIx_0, setIx_1, setIx_2, bindQ_nm, bindL_0, bindL_1, bindQ_tp, z_var, z_con, z_glo, z_bin, z_neg, z_cmp, z_chain, z_isN, z_notN, z_and, z_or, z_not, z_ife, z_call, z_make, methQ_1, z_meth, z_fld, z_pr, z_me, z_isi, z_idx, z_sli, z_abs0, z_tup, z_lst, z_fstr, z_efld, z_eisi, z_comp, z_Tcmp, z_Tchain, z_TisN, z_TnotN, z_Tand, z_Tor, z_Tnot, z_Ttv, z_nil, z_cons, z_Fnil, z_Fcons, z_Tsn, z_Ts1, z_rng1, int2Q_1, z_rng2, z_enm, z_zip, z_sq, z_Bnil, z_Bcons, z_asg, z_asgt, z_asg2, z_setf, z_seti, augQ_1, augQ_2, z_augn, z_augf, z_exp, z_ret, z_retN, z_if, z_for, z_whl, z_brk, z_cnt, z_pas, z_rais0, z_rais1, z_try, z_Hnil, z_Hcons, v_v0, v_vs, v_add, v_sub, v_mul, v_fdiv, v_mod, v_pow, v_sadd, v_tadd, v_ladd, v_lmul, v_int, v_intb, v_abs, v_max2, v_min2, v_stri, v_lens, v_lent, v_lenr, v_tupt, v_tupr, v_lstt, v_lstr, v_any, v_all, v_ixt, v_ixr, v_seti, v_pts, v_ptn, v_sls, v_slt, v_slr, v_fld, v_setf, v_okl, v_oks, v_app, v_pop, v_lt, v_le, v_gt, v_ge, v_eq, v_ne, v_in, v_ni, v_eqii, v_eqss, v_eqbb, v_eqsi, v_eqis, v_eqni, v_eqin, v_eqns, v_eqsn, v_trn, v_trb, v_tri, v_trt, v_trr, v_trs, v_fms, v_fmi, v_inp, v_inl, v_ins, t_n, t_b, t_i, t_s, t_t, t_r, tyO_1, tyO_2, tyO_3, tyO_4, y_n, y_b, y_i, y_s, y_t, y_l, y_d, y_o, y_o1, y_o2, y_o3, y_o4, y_o5, y_o6, w_t, w_s, w_r, w_e, w_zt, List.map_cons, List.map_nil, List.replicate_succ, List.replicate_zero, List.cons_append, List.nil_append, List.append_nil, List.set_cons_zero, List.set_cons_succ, List.any_cons, List.any_nil, List.lookup_cons_self, meT, reduceCtorEq, decide_true, decide_false, Bool.or_false, Bool.false_or, Bool.or_true, Bool.true_or, Bool.not_true, Bool.not_false, Bool.and_true, Bool.true_and, Bool.and_false, Bool.false_and, true_and, and_true, wipeE, List.getElem?_concat_length]
  exact hq _ ((k9.app _).app _)
theorem lawweaving {k r : Nat} {ps : List (D × List Nat)} {st : Store} {Q : QE} {X : QX} (e : st[r]? = some (.lst (ps.map Prod.fst))) (hp : ∀ p ∈ ps, ItemTx p.1 p.2) (hl : ps.length ≤ 400) (hq : ∀ s, Keep st s → Q (.bl true) s) : Call T (k + 7) 25 [.ref r] st Q X := by
  refine call_z f__law_weaving.fn rfl rfl ?_
  show wpB T (Call T (k + 6)) none b__law_weaving [some (.ref r), none, none, none, none, none] st _
  unfold b__law_weaving
  have pl : ∀ d ∈ ps.map Prod.fst, clean 2 d = true ∧ plain 2 d := fun d hd => by
    obtain ⟨p, hm, rfl⟩ := List.mem_map.mp hd
    exact (hp p hm).cln
  have pl3 : plain 3 (.tup (ps.map Prod.fst)) := ⟨by simp; omega, fun d hd => (pl d hd).2⟩
  have sum : ((ps.map Prod.snd).map List.length).sum ≤ 20 * ps.length := by
    have := sum_le (ys := ps.map Prod.snd) (m := 20) fun y hy => by
      obtain ⟨p, hm, rfl⟩ := List.mem_map.mp hy
      exact (hp p hm).fits.2.2.2
    rw [List.length_map] at this
    exact this
  have tl := joinL_len [10] (ps.map Prod.snd)
  simp only [List.length_map, List.length_cons, List.length_nil] at tl
  have cl := cleans_of fun d hd => (pl d hd).1
  simp (implicitDefEqProofs := false) (dsimp := false) (failIfUnchanged := false) only [lz1, z_ifT, z_ifF, ks_nx, ks_rt, ks_bk, ks_ct, ks_xc, kl_nx, kl_rt, kl_bk, kl_ct, kl_xc, kc_nx, kc_rt, kc_xc, kt_nx, kt_rt, kt_bk, kt_ct, kt_xc, kh_nx, kh_rt, un_n, un_s, isNon_1, isNon_2, isNon_3, isNon_4, isNon_5, isNon_6, isNon_7, boolQ_1, intQ_1, optQ_1, lstQ_1, sqQ_1, sqQ_2, insQ_1, getIx_0, getIx_1, getIx_2, getIx_3, getIx_4, getIx_5, setIx_0, setIx_1, setIx_2, bindQ_nm, bindL_0, bindL_1, bindQ_tp, z_var, z_con, z_glo, z_bin, z_neg, z_cmp, z_chain, z_isN, z_notN, z_and, z_or, z_not, z_ife, z_call, z_make, methQ_1, z_meth, z_fld, z_pr, z_me, z_isi, z_idx, z_sli, z_abs0, z_tup, z_lst, z_fstr, z_efld, z_eisi, z_comp, z_Tcmp, z_Tchain, z_TisN, z_TnotN, z_Tand, z_Tor, z_Tnot, z_Ttv, z_nil, z_cons, z_Fnil, z_Fcons, z_Tsn, z_Ts1, z_rng1, int2Q_1, z_rng2, z_enm, z_zip, z_sq, z_Bnil, z_Bcons, z_asg, z_asgt, z_asg2, z_setf, z_seti, augQ_1, augQ_2, z_augn, z_augf, z_exp, z_ret, z_retN, z_if, z_for, z_whl, z_brk, z_cnt, z_pas, z_rais0, z_rais1, z_try, z_Hnil, z_Hcons, v_v0, v_vs, v_add, v_sub, v_mul, v_fdiv, v_mod, v_pow, v_sadd, v_tadd, v_ladd, v_lmul, v_int, v_intb, v_abs, v_max2, v_min2, v_stri, v_lens, v_lent, v_lenr, v_tupt, v_tupr, v_lstt, v_lstr, v_any, v_all, v_ixt, v_ixr, v_seti, v_pts, v_ptn, v_sls, v_slt, v_slr, v_fld, v_setf, v_okl, v_oks, v_app, v_pop, v_lt, v_le, v_gt, v_ge, v_eq, v_ne, v_in, v_ni, v_eqii, v_eqss, v_eqbb, v_eqsi, v_eqis, v_eqni, v_eqin, v_eqns, v_eqsn, v_trn, v_trb, v_tri, v_trt, v_trr, v_trs, v_fms, v_fmi, v_inp, v_inl, v_ins, t_n, t_b, t_i, t_s, t_t, t_r, tyO_1, tyO_2, tyO_3, tyO_4, y_n, y_b, y_i, y_s, y_t, y_l, y_d, y_o, y_o1, y_o2, y_o3, y_o4, y_o5, y_o6, w_t, w_s, w_r, w_e, w_zt, List.map_cons, List.map_nil, List.replicate_succ, List.replicate_zero, List.cons_append, List.nil_append, List.append_nil, List.set_cons_zero, List.set_cons_succ, List.any_cons, List.any_nil, List.lookup_cons_self, meT, reduceCtorEq, decide_true, decide_false, Bool.or_false, Bool.false_or, Bool.or_true, Bool.true_or, Bool.not_true, Bool.not_false, Bool.and_true, Bool.true_and, Bool.and_false, Bool.false_and, true_and, and_true, wipeE, List.getElem?_concat_length, e]
  rw [show (List.length st) = st.length from rfl]
  generalize hg : st.length = g
  have eg : (st ++ [O.lst (ps.map Prod.fst)])[g]? = some (.lst (ps.map Prod.fst)) := by rw [← hg]; exact get_snoc _ _
  have er := get_app [O.lst (ps.map Prod.fst)] e
  have k1 : Keep st (st ++ [O.lst (ps.map Prod.fst)]) := .new _ _
  generalize st ++ [O.lst (ps.map Prod.fst)] = s1 at eg er k1 ⊢
  have lg : g < s1.length := lt_of_get eg
  have gr : g ≠ r := by rw [← hg]; exact Nat.ne_of_gt (lt_of_get e)
  have gst : st.length ≤ g := by omega
  clear hg
  simp (implicitDefEqProofs := false) (dsimp := false) (failIfUnchanged := false) only [lz1, z_ifT, z_ifF, ks_nx, ks_rt, ks_bk, ks_ct, ks_xc, kl_nx, kl_rt, kl_bk, kl_ct, kl_xc, kc_nx, kc_rt, kc_xc, kt_nx, kt_rt, kt_bk, kt_ct, kt_xc, kh_nx, kh_rt, un_n, un_s, isNon_1, isNon_2, isNon_3, isNon_4, isNon_5, isNon_6, isNon_7, boolQ_1, intQ_1, optQ_1, lstQ_1, sqQ_1, sqQ_2, insQ_1, getIx_0, getIx_1, getIx_2, getIx_3, getIx_4, getIx_5, setIx_0, setIx_1, setIx_2, bindQ_nm, bindL_0, bindL_1, bindQ_tp, z_var, z_con, z_glo, z_bin, z_neg, z_cmp, z_chain, z_isN, z_notN, z_and, z_or, z_not, z_ife, z_call, z_make, methQ_1, z_meth, z_fld, z_pr, z_me, z_isi, z_idx, z_sli, z_abs0, z_tup, z_lst, z_fstr, z_efld, z_eisi, z_comp, z_Tcmp, z_Tchain, z_TisN, z_TnotN, z_Tand, z_Tor, z_Tnot, z_Ttv, z_nil, z_cons, z_Fnil, z_Fcons, z_Tsn, z_Ts1, z_rng1, int2Q_1, z_rng2, z_enm, z_zip, z_sq, z_Bnil, z_Bcons, z_asg, z_asgt, z_asg2, z_setf, z_seti, augQ_1, augQ_2, z_augn, z_augf, z_exp, z_ret, z_retN, z_if, z_for, z_whl, z_brk, z_cnt, z_pas, z_rais0, z_rais1, z_try, z_Hnil, z_Hcons, v_v0, v_vs, v_add, v_sub, v_mul, v_fdiv, v_mod, v_pow, v_sadd, v_tadd, v_ladd, v_lmul, v_int, v_intb, v_abs, v_max2, v_min2, v_stri, v_lens, v_lent, v_lenr, v_tupt, v_tupr, v_lstt, v_lstr, v_any, v_all, v_ixt, v_ixr, v_seti, v_pts, v_ptn, v_sls, v_slt, v_slr, v_fld, v_setf, v_okl, v_oks, v_app, v_pop, v_lt, v_le, v_gt, v_ge, v_eq, v_ne, v_in, v_ni, v_eqii, v_eqss, v_eqbb, v_eqsi, v_eqis, v_eqni, v_eqin, v_eqns, v_eqsn, v_trn, v_trb, v_tri, v_trt, v_trr, v_trs, v_fms, v_fmi, v_inp, v_inl, v_ins, t_n, t_b, t_i, t_s, t_t, t_r, tyO_1, tyO_2, tyO_3, tyO_4, y_n, y_b, y_i, y_s, y_t, y_l, y_d, y_o, y_o1, y_o2, y_o3, y_o4, y_o5, y_o6, w_t, w_s, w_r, w_e, w_zt, List.map_cons, List.map_nil, List.replicate_succ, List.replicate_zero, List.cons_append, List.nil_append, List.append_nil, List.set_cons_zero, List.set_cons_succ, List.any_cons, List.any_nil, List.lookup_cons_self, meT, reduceCtorEq, decide_true, decide_false, Bool.or_false, Bool.false_or, Bool.or_true, Bool.true_or, Bool.not_true, Bool.not_false, Bool.and_true, Bool.true_and, Bool.and_false, Bool.false_and, true_and, and_true, wipeE, List.getElem?_concat_length, er]
  refine cmp_l (ds := ps.map Prod.fst) (fun r' acc s => ∃ done qs, ps = done ++ qs ∧ r' = qs.map Prod.fst ∧ acc = (done.map Prod.snd).map D.str ∧ s = s1 ++ [.lst acc]) ⟨[], ps, rfl, rfl, rfl, rfl⟩ (fun r' acc s ⟨done, qs, e1, e2, e3, e4⟩ => ?_) (fun d r' acc s N ⟨done, qs, e1, e2, e3, e4⟩ hN => ?_) (fun acc s ⟨done, qs, e1, e2, e3, e4⟩ => ?_)
  · rw [e4, get_app _ er]
    rfl
  · subst e4
    cases qs with
    | nil => cases e2
    | cons q qs =>
      cases e2
      simp (implicitDefEqProofs := false) (dsimp := false) (failIfUnchanged := false) only [lz1, z_ifT, z_ifF, ks_nx, ks_rt, ks_bk, ks_ct, ks_xc, kl_nx, kl_rt, kl_bk, kl_ct, kl_xc, kc_nx, kc_rt, kc_xc, kt_nx, kt_rt, kt_bk, kt_ct, kt_xc, kh_nx, kh_rt, un_n, un_s, isNon_1, isNon_2, isNon_3, isNon_4, isNon_5, isNon_6, isNon_7, boolQ_1, intQ_1, optQ_1, lstQ_1, sqQ_1, sqQ_2, insQ_1, getIx_0, getIx_1, getIx_2, getIx_3, getIx_4, getIx_5, setIx_0, setIx_1, setIx_2, bindQ_nm, bindL_0, bindL_1, bindQ_tp, z_var, z_con, z_glo, z_bin, z_neg, z_cmp, z_chain, z_isN, z_notN, z_and, z_or, z_not, z_ife, z_call, z_make, methQ_1, z_meth, z_fld, z_pr, z_me, z_isi, z_idx, z_sli, z_abs0, z_tup, z_lst, z_fstr, z_efld, z_eisi, z_comp, z_Tcmp, z_Tchain, z_TisN, z_TnotN, z_Tand, z_Tor, z_Tnot, z_Ttv, z_nil, z_cons, z_Fnil, z_Fcons, z_Tsn, z_Ts1, z_rng1, int2Q_1, z_rng2, z_enm, z_zip, z_sq, z_Bnil, z_Bcons, z_asg, z_asgt, z_asg2, z_setf, z_seti, augQ_1, augQ_2, z_augn, z_augf, z_exp, z_ret, z_retN, z_if, z_for, z_whl, z_brk, z_cnt, z_pas, z_rais0, z_rais1, z_try, z_Hnil, z_Hcons, v_v0, v_vs, v_add, v_sub, v_mul, v_fdiv, v_mod, v_pow, v_sadd, v_tadd, v_ladd, v_lmul, v_int, v_intb, v_abs, v_max2, v_min2, v_stri, v_lens, v_lent, v_lenr, v_tupt, v_tupr, v_lstt, v_lstr, v_any, v_all, v_ixt, v_ixr, v_seti, v_pts, v_ptn, v_sls, v_slt, v_slr, v_fld, v_setf, v_okl, v_oks, v_app, v_pop, v_lt, v_le, v_gt, v_ge, v_eq, v_ne, v_in, v_ni, v_eqii, v_eqss, v_eqbb, v_eqsi, v_eqis, v_eqni, v_eqin, v_eqns, v_eqsn, v_trn, v_trb, v_tri, v_trt, v_trr, v_trs, v_fms, v_fmi, v_inp, v_inl, v_ins, t_n, t_b, t_i, t_s, t_t, t_r, tyO_1, tyO_2, tyO_3, tyO_4, y_n, y_b, y_i, y_s, y_t, y_l, y_d, y_o, y_o1, y_o2, y_o3, y_o4, y_o5, y_o6, w_t, w_s, w_r, w_e, w_zt, List.map_cons, List.map_nil, List.replicate_succ, List.replicate_zero, List.cons_append, List.nil_append, List.append_nil, List.set_cons_zero, List.set_cons_succ, List.any_cons, List.any_nil, List.lookup_cons_self, meT, reduceCtorEq, decide_true, decide_false, Bool.or_false, Bool.false_or, Bool.or_true, Bool.true_or, Bool.not_true, Bool.not_false, Bool.and_true, Bool.true_and, Bool.and_false, Bool.false_and, true_and, and_true, wipeE, List.getElem?_concat_length]
      refine itemline' (hp q (by rw [e1]; simp)) ?_
      simp (implicitDefEqProofs := false) (dsimp := false) (failIfUnchanged := false) only [lz1, z_ifT, z_ifF, ks_nx, ks_rt, ks_bk, ks_ct, ks_xc, kl_nx, kl_rt, kl_bk, kl_ct, kl_xc, kc_nx, kc_rt, kc_xc, kt_nx, kt_rt, kt_bk, kt_ct, kt_xc, kh_nx, kh_rt, un_n, un_s, isNon_1, isNon_2, isNon_3, isNon_4, isNon_5, isNon_6, isNon_7, boolQ_1, intQ_1, optQ_1, lstQ_1, sqQ_1, sqQ_2, insQ_1, getIx_0, getIx_1, getIx_2, getIx_3, getIx_4, getIx_5, setIx_0, setIx_1, setIx_2, bindQ_nm, bindL_0, bindL_1, bindQ_tp, z_var, z_con, z_glo, z_bin, z_neg, z_cmp, z_chain, z_isN, z_notN, z_and, z_or, z_not, z_ife, z_call, z_make, methQ_1, z_meth, z_fld, z_pr, z_me, z_isi, z_idx, z_sli, z_abs0, z_tup, z_lst, z_fstr, z_efld, z_eisi, z_comp, z_Tcmp, z_Tchain, z_TisN, z_TnotN, z_Tand, z_Tor, z_Tnot, z_Ttv, z_nil, z_cons, z_Fnil, z_Fcons, z_Tsn, z_Ts1, z_rng1, int2Q_1, z_rng2, z_enm, z_zip, z_sq, z_Bnil, z_Bcons, z_asg, z_asgt, z_asg2, z_setf, z_seti, augQ_1, augQ_2, z_augn, z_augf, z_exp, z_ret, z_retN, z_if, z_for, z_whl, z_brk, z_cnt, z_pas, z_rais0, z_rais1, z_try, z_Hnil, z_Hcons, v_v0, v_vs, v_add, v_sub, v_mul, v_fdiv, v_mod, v_pow, v_sadd, v_tadd, v_ladd, v_lmul, v_int, v_intb, v_abs, v_max2, v_min2, v_stri, v_lens, v_lent, v_lenr, v_tupt, v_tupr, v_lstt, v_lstr, v_any, v_all, v_ixt, v_ixr, v_seti, v_pts, v_ptn, v_sls, v_slt, v_slr, v_fld, v_setf, v_okl, v_oks, v_app, v_pop, v_lt, v_le, v_gt, v_ge, v_eq, v_ne, v_in, v_ni, v_eqii, v_eqss, v_eqbb, v_eqsi, v_eqis, v_eqni, v_eqin, v_eqns, v_eqsn, v_trn, v_trb, v_tri, v_trt, v_trr, v_trs, v_fms, v_fmi, v_inp, v_inl, v_ins, t_n, t_b, t_i, t_s, t_t, t_r, tyO_1, tyO_2, tyO_3, tyO_4, y_n, y_b, y_i, y_s, y_t, y_l, y_d, y_o, y_o1, y_o2, y_o3, y_o4, y_o5, y_o6, w_t, w_s, w_r, w_e, w_zt, List.map_cons, List.map_nil, List.replicate_succ, List.replicate_zero, List.cons_append, List.nil_append, List.append_nil, List.set_cons_zero, List.set_cons_succ, List.any_cons, List.any_nil, List.lookup_cons_self, meT, reduceCtorEq, decide_true, decide_false, Bool.or_false, Bool.false_or, Bool.or_true, Bool.true_or, Bool.not_true, Bool.not_false, Bool.and_true, Bool.true_and, Bool.and_false, Bool.false_and, true_and, and_true, wipeE, List.getElem?_concat_length]
      refine ⟨lt_line (by rw [e3]; have := congrArg List.length e1; simp at this ⊢; omega), hN _ _ ⟨done ++ [q], qs, join_snoc e1, rfl, ?_, set_last _ _ _⟩⟩
      rw [e3]
      simp
  subst e4
  cases qs with
  | cons q qs => cases e2
  | nil =>
  rw [List.append_nil] at e1
  subst e1 e3
  simp (implicitDefEqProofs := false) (dsimp := false) (failIfUnchanged := false) only [lz1, z_ifT, z_ifF, ks_nx, ks_rt, ks_bk, ks_ct, ks_xc, kl_nx, kl_rt, kl_bk, kl_ct, kl_xc, kc_nx, kc_rt, kc_xc, kt_nx, kt_rt, kt_bk, kt_ct, kt_xc, kh_nx, kh_rt, un_n, un_s, isNon_1, isNon_2, isNon_3, isNon_4, isNon_5, isNon_6, isNon_7, boolQ_1, intQ_1, optQ_1, lstQ_1, sqQ_1, sqQ_2, insQ_1, getIx_0, getIx_1, getIx_2, getIx_3, getIx_4, getIx_5, setIx_0, setIx_1, setIx_2, bindQ_nm, bindL_0, bindL_1, bindQ_tp, z_var, z_con, z_glo, z_bin, z_neg, z_cmp, z_chain, z_isN, z_notN, z_and, z_or, z_not, z_ife, z_call, z_make, methQ_1, z_meth, z_fld, z_pr, z_me, z_isi, z_idx, z_sli, z_abs0, z_tup, z_lst, z_fstr, z_efld, z_eisi, z_comp, z_Tcmp, z_Tchain, z_TisN, z_TnotN, z_Tand, z_Tor, z_Tnot, z_Ttv, z_nil, z_cons, z_Fnil, z_Fcons, z_Tsn, z_Ts1, z_rng1, int2Q_1, z_rng2, z_enm, z_zip, z_sq, z_Bnil, z_Bcons, z_asg, z_asgt, z_asg2, z_setf, z_seti, augQ_1, augQ_2, z_augn, z_augf, z_exp, z_ret, z_retN, z_if, z_for, z_whl, z_brk, z_cnt, z_pas, z_rais0, z_rais1, z_try, z_Hnil, z_Hcons, v_v0, v_vs, v_add, v_sub, v_mul, v_fdiv, v_mod, v_pow, v_sadd, v_tadd, v_ladd, v_lmul, v_int, v_intb, v_abs, v_max2, v_min2, v_stri, v_lens, v_lent, v_lenr, v_tupt, v_tupr, v_lstt, v_lstr, v_any, v_all, v_ixt, v_ixr, v_seti, v_pts, v_ptn, v_sls, v_slt, v_slr, v_fld, v_setf, v_okl, v_oks, v_app, v_pop, v_lt, v_le, v_gt, v_ge, v_eq, v_ne, v_in, v_ni, v_eqii, v_eqss, v_eqbb, v_eqsi, v_eqis, v_eqni, v_eqin, v_eqns, v_eqsn, v_trn, v_trb, v_tri, v_trt, v_trr, v_trs, v_fms, v_fmi, v_inp, v_inl, v_ins, t_n, t_b, t_i, t_s, t_t, t_r, tyO_1, tyO_2, tyO_3, tyO_4, y_n, y_b, y_i, y_s, y_t, y_l, y_d, y_o, y_o1, y_o2, y_o3, y_o4, y_o5, y_o6, w_t, w_s, w_r, w_e, w_zt, List.map_cons, List.map_nil, List.replicate_succ, List.replicate_zero, List.cons_append, List.nil_append, List.append_nil, List.set_cons_zero, List.set_cons_succ, List.any_cons, List.any_nil, List.lookup_cons_self, meT, reduceCtorEq, decide_true, decide_false, Bool.or_false, Bool.false_or, Bool.or_true, Bool.true_or, Bool.not_true, Bool.not_false, Bool.and_true, Bool.true_and, Bool.and_false, Bool.false_and, true_and, and_true, wipeE, List.getElem?_concat_length]
  refine go_join (ys := ps.map Prod.snd) (seq_l (get_snoc _ _)) (by simp only [List.length_map, List.length_cons, List.length_nil]; omega) ?_
  generalize ht : TL.joinL [10] (ps.map Prod.snd) = tx at tl
  have eg2 := get_app [O.lst ((ps.map Prod.snd).map D.str)] eg
  have er2 := get_app [O.lst ((ps.map Prod.snd).map D.str)] er
  have k2 := k1.app [O.lst ((ps.map Prod.snd).map D.str)]
  generalize s1 ++ [O.lst ((ps.map Prod.snd).map D.str)] = s2 at eg2 er2 k2 ⊢
  simp (implicitDefEqProofs := false) (dsimp := false) (failIfUnchanged := false) only [lz1, z_ifT, z_ifF, ks_nx, ks_rt, ks_bk, ks_ct, ks_xc, kl_nx, kl_rt, kl_bk, kl_ct, kl_xc, kc_nx, kc_rt, kc_xc, kt_nx, kt_rt, kt_bk, kt_ct, kt_xc, kh_nx, kh_rt, un_n, un_s, isNon_1, isNon_2, isNon_3, isNon_4, isNon_5, isNon_6, isNon_7, boolQ_1, intQ_1, optQ_1, lstQ_1, sqQ_1, sqQ_2, insQ_1, getIx_0, getIx_1, getIx_2, getIx_3, getIx_4, getIx_5, setIx_0, setIx_1, setIx_2, bindQ_nm, bindL_0, bindL_1, bindQ_tp, z_var, z_con, z_glo, z_bin, z_neg, z_cmp, z_chain, z_isN, z_notN, z_and, z_or, z_not, z_ife, z_call, z_make, methQ_1, z_meth, z_fld, z_pr, z_me, z_isi, z_idx, z_sli, z_abs0, z_tup, z_lst, z_fstr, z_efld, z_eisi, z_comp, z_Tcmp, z_Tchain, z_TisN, z_TnotN, z_Tand, z_Tor, z_Tnot, z_Ttv, z_nil, z_cons, z_Fnil, z_Fcons, z_Tsn, z_Ts1, z_rng1, int2Q_1, z_rng2, z_enm, z_zip, z_sq, z_Bnil, z_Bcons, z_asg, z_asgt, z_asg2, z_setf, z_seti, augQ_1, augQ_2, z_augn, z_augf, z_exp, z_ret, z_retN, z_if, z_for, z_whl, z_brk, z_cnt, z_pas, z_rais0, z_rais1, z_try, z_Hnil, z_Hcons, v_v0, v_vs, v_add, v_sub, v_mul, v_fdiv, v_mod, v_pow, v_sadd, v_tadd, v_ladd, v_lmul, v_int, v_intb, v_abs, v_max2, v_min2, v_stri, v_lens, v_lent, v_lenr, v_tupt, v_tupr, v_lstt, v_lstr, v_any, v_all, v_ixt, v_ixr, v_seti, v_pts, v_ptn, v_sls, v_slt, v_slr, v_fld, v_setf, v_okl, v_oks, v_app, v_pop, v_lt, v_le, v_gt, v_ge, v_eq, v_ne, v_in, v_ni, v_eqii, v_eqss, v_eqbb, v_eqsi, v_eqis, v_eqni, v_eqin, v_eqns, v_eqsn, v_trn, v_trb, v_tri, v_trt, v_trr, v_trs, v_fms, v_fmi, v_inp, v_inl, v_ins, t_n, t_b, t_i, t_s, t_t, t_r, tyO_1, tyO_2, tyO_3, tyO_4, y_n, y_b, y_i, y_s, y_t, y_l, y_d, y_o, y_o1, y_o2, y_o3, y_o4, y_o5, y_o6, w_t, w_s, w_r, w_e, w_zt, List.map_cons, List.map_nil, List.replicate_succ, List.replicate_zero, List.cons_append, List.nil_append, List.append_nil, List.set_cons_zero, List.set_cons_succ, List.any_cons, List.any_nil, List.lookup_cons_self, meT, reduceCtorEq, decide_true, decide_false, Bool.or_false, Bool.false_or, Bool.or_true, Bool.true_or, Bool.not_true, Bool.not_false, Bool.and_true, Bool.true_and, Bool.and_false, Bool.false_and, true_and, and_true, wipeE, List.getElem?_concat_length]
  refine weavingtext eg2 hp (by omega) (by omega) ?_
  rw [ht]
  have eg3 := get_app [O.lst ((ps.map Prod.snd).map D.str)] eg2
  have er3 := get_app [O.lst ((ps.map Prod.snd).map D.str)] er2
  have k3 := k2.app [O.lst ((ps.map Prod.snd).map D.str)]
  generalize s2 ++ [O.lst ((ps.map Prod.snd).map D.str)] = s3 at eg3 er3 k3 ⊢
  simp (implicitDefEqProofs := false) (dsimp := false) (failIfUnchanged := false) only [lz1, z_ifT, z_ifF, ks_nx, ks_rt, ks_bk, ks_ct, ks_xc, kl_nx, kl_rt, kl_bk, kl_ct, kl_xc, kc_nx, kc_rt, kc_xc, kt_nx, kt_rt, kt_bk, kt_ct, kt_xc, kh_nx, kh_rt, un_n, un_s, isNon_1, isNon_2, isNon_3, isNon_4, isNon_5, isNon_6, isNon_7, boolQ_1, intQ_1, optQ_1, lstQ_1, sqQ_1, sqQ_2, insQ_1, getIx_0, getIx_1, getIx_2, getIx_3, getIx_4, getIx_5, setIx_0, setIx_1, setIx_2, bindQ_nm, bindL_0, bindL_1, bindQ_tp, z_var, z_con, z_glo, z_bin, z_neg, z_cmp, z_chain, z_isN, z_notN, z_and, z_or, z_not, z_ife, z_call, z_make, methQ_1, z_meth, z_fld, z_pr, z_me, z_isi, z_idx, z_sli, z_abs0, z_tup, z_lst, z_fstr, z_efld, z_eisi, z_comp, z_Tcmp, z_Tchain, z_TisN, z_TnotN, z_Tand, z_Tor, z_Tnot, z_Ttv, z_nil, z_cons, z_Fnil, z_Fcons, z_Tsn, z_Ts1, z_rng1, int2Q_1, z_rng2, z_enm, z_zip, z_sq, z_Bnil, z_Bcons, z_asg, z_asgt, z_asg2, z_setf, z_seti, augQ_1, augQ_2, z_augn, z_augf, z_exp, z_ret, z_retN, z_if, z_for, z_whl, z_brk, z_cnt, z_pas, z_rais0, z_rais1, z_try, z_Hnil, z_Hcons, v_v0, v_vs, v_add, v_sub, v_mul, v_fdiv, v_mod, v_pow, v_sadd, v_tadd, v_ladd, v_lmul, v_int, v_intb, v_abs, v_max2, v_min2, v_stri, v_lens, v_lent, v_lenr, v_tupt, v_tupr, v_lstt, v_lstr, v_any, v_all, v_ixt, v_ixr, v_seti, v_pts, v_ptn, v_sls, v_slt, v_slr, v_fld, v_setf, v_okl, v_oks, v_app, v_pop, v_lt, v_le, v_gt, v_ge, v_eq, v_ne, v_in, v_ni, v_eqii, v_eqss, v_eqbb, v_eqsi, v_eqis, v_eqni, v_eqin, v_eqns, v_eqsn, v_trn, v_trb, v_tri, v_trt, v_trr, v_trs, v_fms, v_fmi, v_inp, v_inl, v_ins, t_n, t_b, t_i, t_s, t_t, t_r, tyO_1, tyO_2, tyO_3, tyO_4, y_n, y_b, y_i, y_s, y_t, y_l, y_d, y_o, y_o1, y_o2, y_o3, y_o4, y_o5, y_o6, w_t, w_s, w_r, w_e, w_zt, List.map_cons, List.map_nil, List.replicate_succ, List.replicate_zero, List.cons_append, List.nil_append, List.append_nil, List.set_cons_zero, List.set_cons_succ, List.any_cons, List.any_nil, List.lookup_cons_self, meT, reduceCtorEq, decide_true, decide_false, Bool.or_false, Bool.false_or, Bool.or_true, Bool.true_or, Bool.not_true, Bool.not_false, Bool.and_true, Bool.true_and, Bool.and_false, Bool.false_and, true_and, and_true, wipeE, List.getElem?_concat_length]
  refine eqQ_lists (n := 2) (m := 2) eg3 er3 cl cl (by decide) (by decide) ?_
  simp (implicitDefEqProofs := false) (dsimp := false) (failIfUnchanged := false) only [lz1, z_ifT, z_ifF, ks_nx, ks_rt, ks_bk, ks_ct, ks_xc, kl_nx, kl_rt, kl_bk, kl_ct, kl_xc, kc_nx, kc_rt, kc_xc, kt_nx, kt_rt, kt_bk, kt_ct, kt_xc, kh_nx, kh_rt, un_n, un_s, isNon_1, isNon_2, isNon_3, isNon_4, isNon_5, isNon_6, isNon_7, boolQ_1, intQ_1, optQ_1, lstQ_1, sqQ_1, sqQ_2, insQ_1, getIx_0, getIx_1, getIx_2, getIx_3, getIx_4, getIx_5, setIx_0, setIx_1, setIx_2, bindQ_nm, bindL_0, bindL_1, bindQ_tp, z_var, z_con, z_glo, z_bin, z_neg, z_cmp, z_chain, z_isN, z_notN, z_and, z_or, z_not, z_ife, z_call, z_make, methQ_1, z_meth, z_fld, z_pr, z_me, z_isi, z_idx, z_sli, z_abs0, z_tup, z_lst, z_fstr, z_efld, z_eisi, z_comp, z_Tcmp, z_Tchain, z_TisN, z_TnotN, z_Tand, z_Tor, z_Tnot, z_Ttv, z_nil, z_cons, z_Fnil, z_Fcons, z_Tsn, z_Ts1, z_rng1, int2Q_1, z_rng2, z_enm, z_zip, z_sq, z_Bnil, z_Bcons, z_asg, z_asgt, z_asg2, z_setf, z_seti, augQ_1, augQ_2, z_augn, z_augf, z_exp, z_ret, z_retN, z_if, z_for, z_whl, z_brk, z_cnt, z_pas, z_rais0, z_rais1, z_try, z_Hnil, z_Hcons, v_v0, v_vs, v_add, v_sub, v_mul, v_fdiv, v_mod, v_pow, v_sadd, v_tadd, v_ladd, v_lmul, v_int, v_intb, v_abs, v_max2, v_min2, v_stri, v_lens, v_lent, v_lenr, v_tupt, v_tupr, v_lstt, v_lstr, v_any, v_all, v_ixt, v_ixr, v_seti, v_pts, v_ptn, v_sls, v_slt, v_slr, v_fld, v_setf, v_okl, v_oks, v_app, v_pop, v_lt, v_le, v_gt, v_ge, v_eq, v_ne, v_in, v_ni, v_eqii, v_eqss, v_eqbb, v_eqsi, v_eqis, v_eqni, v_eqin, v_eqns, v_eqsn, v_trn, v_trb, v_tri, v_trt, v_trr, v_trs, v_fms, v_fmi, v_inp, v_inl, v_ins, t_n, t_b, t_i, t_s, t_t, t_r, tyO_1, tyO_2, tyO_3, tyO_4, y_n, y_b, y_i, y_s, y_t, y_l, y_d, y_o, y_o1, y_o2, y_o3, y_o4, y_o5, y_o6, w_t, w_s, w_r, w_e, w_zt, List.map_cons, List.map_nil, List.replicate_succ, List.replicate_zero, List.cons_append, List.nil_append, List.append_nil, List.set_cons_zero, List.set_cons_succ, List.any_cons, List.any_nil, List.lookup_cons_self, meT, reduceCtorEq, decide_true, decide_false, Bool.or_false, Bool.false_or, Bool.or_true, Bool.true_or, Bool.not_true, Bool.not_false, Bool.and_true, Bool.true_and, Bool.and_false, Bool.false_and, true_and, and_true, wipeE, List.getElem?_concat_length]
  refine readweaving ht.symm hp (by omega) (by omega) fun rest => ?_
  generalize hb : s3.length = b
  have eb4 : (s3 ++ [O.lst (ps.map Prod.fst)] ++ rest)[b]? = some (.lst (ps.map Prod.fst)) := by rw [← hb]; exact get_snoc2 _ _ _
  have eg4 := get_app rest (get_app [O.lst (ps.map Prod.fst)] eg3)
  have er4 := get_app rest (get_app [O.lst (ps.map Prod.fst)] er3)
  have k4 := (k3.app [O.lst (ps.map Prod.fst)]).app rest
  generalize s3 ++ [O.lst (ps.map Prod.fst)] ++ rest = s4 at eb4 eg4 er4 k4 ⊢
  have bg : b ≠ g := by have := lt_of_get eg3; omega
  have br : b ≠ r := by have := lt_of_get er3; omega
  have bst : st.length ≤ b := by have := k3.len; omega
  clear hb
  simp (implicitDefEqProofs := false) (dsimp := false) (failIfUnchanged := false) only [lz1, z_ifT, z_ifF, ks_nx, ks_rt, ks_bk, ks_ct, ks_xc, kl_nx, kl_rt, kl_bk, kl_ct, kl_xc, kc_nx, kc_rt, kc_xc, kt_nx, kt_rt, kt_bk, kt_ct, kt_xc, kh_nx, kh_rt, un_n, un_s, isNon_1, isNon_2, isNon_3, isNon_4, isNon_5, isNon_6, isNon_7, boolQ_1, intQ_1, optQ_1, lstQ_1, sqQ_1, sqQ_2, insQ_1, getIx_0, getIx_1, getIx_2, getIx_3, getIx_4, getIx_5, setIx_0, setIx_1, setIx_2, bindQ_nm, bindL_0, bindL_1, bindQ_tp, z_var, z_con, z_glo, z_bin, z_neg, z_cmp, z_chain, z_isN, z_notN, z_and, z_or, z_not, z_ife, z_call, z_make, methQ_1, z_meth, z_fld, z_pr, z_me, z_isi, z_idx, z_sli, z_abs0, z_tup, z_lst, z_fstr, z_efld, z_eisi, z_comp, z_Tcmp, z_Tchain, z_TisN, z_TnotN, z_Tand, z_Tor, z_Tnot, z_Ttv, z_nil, z_cons, z_Fnil, z_Fcons, z_Tsn, z_Ts1, z_rng1, int2Q_1, z_rng2, z_enm, z_zip, z_sq, z_Bnil, z_Bcons, z_asg, z_asgt, z_asg2, z_setf, z_seti, augQ_1, augQ_2, z_augn, z_augf, z_exp, z_ret, z_retN, z_if, z_for, z_whl, z_brk, z_cnt, z_pas, z_rais0, z_rais1, z_try, z_Hnil, z_Hcons, v_v0, v_vs, v_add, v_sub, v_mul, v_fdiv, v_mod, v_pow, v_sadd, v_tadd, v_ladd, v_lmul, v_int, v_intb, v_abs, v_max2, v_min2, v_stri, v_lens, v_lent, v_lenr, v_tupt, v_tupr, v_lstt, v_lstr, v_any, v_all, v_ixt, v_ixr, v_seti, v_pts, v_ptn, v_sls, v_slt, v_slr, v_fld, v_setf, v_okl, v_oks, v_app, v_pop, v_lt, v_le, v_gt, v_ge, v_eq, v_ne, v_in, v_ni, v_eqii, v_eqss, v_eqbb, v_eqsi, v_eqis, v_eqni, v_eqin, v_eqns, v_eqsn, v_trn, v_trb, v_tri, v_trt, v_trr, v_trs, v_fms, v_fmi, v_inp, v_inl, v_ins, t_n, t_b, t_i, t_s, t_t, t_r, tyO_1, tyO_2, tyO_3, tyO_4, y_n, y_b, y_i, y_s, y_t, y_l, y_d, y_o, y_o1, y_o2, y_o3, y_o4, y_o5, y_o6, w_t, w_s, w_r, w_e, w_zt, List.map_cons, List.map_nil, List.replicate_succ, List.replicate_zero, List.cons_append, List.nil_append, List.append_nil, List.set_cons_zero, List.set_cons_succ, List.any_cons, List.any_nil, List.lookup_cons_self, meT, reduceCtorEq, decide_true, decide_false, Bool.or_false, Bool.false_or, Bool.or_true, Bool.true_or, Bool.not_true, Bool.not_false, Bool.and_true, Bool.true_and, Bool.and_false, Bool.false_and, true_and, and_true, wipeE, List.getElem?_concat_length]
  refine islist eb4 er4 pl3 fun s5 h5 => ?_
  have eb5 := h5.get eb4
  have eg5 := h5.get eg4
  have er5 := h5.get er4
  have k5 := k4.trans h5
  simp (implicitDefEqProofs := false) (dsimp := false) (failIfUnchanged := false) only [lz1, z_ifT, z_ifF, ks_nx, ks_rt, ks_bk, ks_ct, ks_xc, kl_nx, kl_rt, kl_bk, kl_ct, kl_xc, kc_nx, kc_rt, kc_xc, kt_nx, kt_rt, kt_bk, kt_ct, kt_xc, kh_nx, kh_rt, un_n, un_s, isNon_1, isNon_2, isNon_3, isNon_4, isNon_5, isNon_6, isNon_7, boolQ_1, intQ_1, optQ_1, lstQ_1, sqQ_1, sqQ_2, insQ_1, getIx_0, getIx_1, getIx_2, getIx_3, getIx_4, getIx_5, setIx_0, setIx_1, setIx_2, bindQ_nm, bindL_0, bindL_1, bindQ_tp, z_var, z_con, z_glo, z_bin, z_neg, z_cmp, z_chain, z_isN, z_notN, z_and, z_or, z_not, z_ife, z_call, z_make, methQ_1, z_meth, z_fld, z_pr, z_me, z_isi, z_idx, z_sli, z_abs0, z_tup, z_lst, z_fstr, z_efld, z_eisi, z_comp, z_Tcmp, z_Tchain, z_TisN, z_TnotN, z_Tand, z_Tor, z_Tnot, z_Ttv, z_nil, z_cons, z_Fnil, z_Fcons, z_Tsn, z_Ts1, z_rng1, int2Q_1, z_rng2, z_enm, z_zip, z_sq, z_Bnil, z_Bcons, z_asg, z_asgt, z_asg2, z_setf, z_seti, augQ_1, augQ_2, z_augn, z_augf, z_exp, z_ret, z_retN, z_if, z_for, z_whl, z_brk, z_cnt, z_pas, z_rais0, z_rais1, z_try, z_Hnil, z_Hcons, v_v0, v_vs, v_add, v_sub, v_mul, v_fdiv, v_mod, v_pow, v_sadd, v_tadd, v_ladd, v_lmul, v_int, v_intb, v_abs, v_max2, v_min2, v_stri, v_lens, v_lent, v_lenr, v_tupt, v_tupr, v_lstt, v_lstr, v_any, v_all, v_ixt, v_ixr, v_seti, v_pts, v_ptn, v_sls, v_slt, v_slr, v_fld, v_setf, v_okl, v_oks, v_app, v_pop, v_lt, v_le, v_gt, v_ge, v_eq, v_ne, v_in, v_ni, v_eqii, v_eqss, v_eqbb, v_eqsi, v_eqis, v_eqni, v_eqin, v_eqns, v_eqsn, v_trn, v_trb, v_tri, v_trt, v_trr, v_trs, v_fms, v_fmi, v_inp, v_inl, v_ins, t_n, t_b, t_i, t_s, t_t, t_r, tyO_1, tyO_2, tyO_3, tyO_4, y_n, y_b, y_i, y_s, y_t, y_l, y_d, y_o, y_o1, y_o2, y_o3, y_o4, y_o5, y_o6, w_t, w_s, w_r, w_e, w_zt, List.map_cons, List.map_nil, List.replicate_succ, List.replicate_zero, List.cons_append, List.nil_append, List.append_nil, List.set_cons_zero, List.set_cons_succ, List.any_cons, List.any_nil, List.lookup_cons_self, meT, reduceCtorEq, decide_true, decide_false, Bool.or_false, Bool.false_or, Bool.or_true, Bool.true_or, Bool.not_true, Bool.not_false, Bool.and_true, Bool.true_and, Bool.and_false, Bool.false_and, true_and, and_true, wipeE, List.getElem?_concat_length, eb5]
  refine ⟨lt_line (by simp; omega), ?_⟩
  generalize hs6 : s5.set b _ = s6
  have eg6 : s6[g]? = some (.lst (ps.map Prod.fst)) := by rw [← hs6]; exact get_set eg5 bg
  have er6 : s6[r]? = some (.lst (ps.map Prod.fst)) := by rw [← hs6]; exact get_set er5 br
  have k6 : Keep st s6 := by rw [← hs6]; exact k5.set _ bst
  clear hs6
  simp (implicitDefEqProofs := false) (dsimp := false) (failIfUnchanged := false) only [lz1, z_ifT, z_ifF, ks_nx, ks_rt, ks_bk, ks_ct, ks_xc, kl_nx, kl_rt, kl_bk, kl_ct, kl_xc, kc_nx, kc_rt, kc_xc, kt_nx, kt_rt, kt_bk, kt_ct, kt_xc, kh_nx, kh_rt, un_n, un_s, isNon_1, isNon_2, isNon_3, isNon_4, isNon_5, isNon_6, isNon_7, boolQ_1, intQ_1, optQ_1, lstQ_1, sqQ_1, sqQ_2, insQ_1, getIx_0, getIx_1, getIx_2, getIx_3, getIx_4, getIx_5, setIx_0, setIx_1, setIx_2, bindQ_nm, bindL_0, bindL_1, bindQ_tp, z_var, z_con, z_glo, z_bin, z_neg, z_cmp, z_chain, z_isN, z_notN, z_and, z_or, z_not, z_ife, z_call, z_make, methQ_1, z_meth, z_fld, z_pr, z_me, z_isi, z_idx, z_sli, z_abs0, z_tup, z_lst, z_fstr, z_efld, z_eisi, z_comp, z_Tcmp, z_Tchain, z_TisN, z_TnotN, z_Tand, z_Tor, z_Tnot, z_Ttv, z_nil, z_cons, z_Fnil, z_Fcons, z_Tsn, z_Ts1, z_rng1, int2Q_1, z_rng2, z_enm, z_zip, z_sq, z_Bnil, z_Bcons, z_asg, z_asgt, z_asg2, z_setf, z_seti, augQ_1, augQ_2, z_augn, z_augf, z_exp, z_ret, z_retN, z_if, z_for, z_whl, z_brk, z_cnt, z_pas, z_rais0, z_rais1, z_try, z_Hnil, z_Hcons, v_v0, v_vs, v_add, v_sub, v_mul, v_fdiv, v_mod, v_pow, v_sadd, v_tadd, v_ladd, v_lmul, v_int, v_intb, v_abs, v_max2, v_min2, v_stri, v_lens, v_lent, v_lenr, v_tupt, v_tupr, v_lstt, v_lstr, v_any, v_all, v_ixt, v_ixr, v_seti, v_pts, v_ptn, v_sls, v_slt, v_slr, v_fld, v_setf, v_okl, v_oks, v_app, v_pop, v_lt, v_le, v_gt, v_ge, v_eq, v_ne, v_in, v_ni, v_eqii, v_eqss, v_eqbb, v_eqsi, v_eqis, v_eqni, v_eqin, v_eqns, v_eqsn, v_trn, v_trb, v_tri, v_trt, v_trr, v_trs, v_fms, v_fmi, v_inp, v_inl, v_ins, t_n, t_b, t_i, t_s, t_t, t_r, tyO_1, tyO_2, tyO_3, tyO_4, y_n, y_b, y_i, y_s, y_t, y_l, y_d, y_o, y_o1, y_o2, y_o3, y_o4, y_o5, y_o6, w_t, w_s, w_r, w_e, w_zt, List.map_cons, List.map_nil, List.replicate_succ, List.replicate_zero, List.cons_append, List.nil_append, List.append_nil, List.set_cons_zero, List.set_cons_succ, List.any_cons, List.any_nil, List.lookup_cons_self, meT, reduceCtorEq, decide_true, decide_false, Bool.or_false, Bool.false_or, Bool.or_true, Bool.true_or, Bool.not_true, Bool.not_false, Bool.and_true, Bool.true_and, Bool.and_false, Bool.false_and, true_and, and_true, wipeE, List.getElem?_concat_length]
  refine readweaving ht.symm hp (by omega) (by omega) fun rest => ?_
  have eb8 : (s6 ++ [O.lst (ps.map Prod.fst)] ++ rest)[s6.length]? = some (.lst (ps.map Prod.fst)) := get_snoc2 _ _ _
  have er8 := get_app rest (get_app [O.lst (ps.map Prod.fst)] er6)
  have k8 := (k6.app [O.lst (ps.map Prod.fst)]).app rest
  generalize s6 ++ [O.lst (ps.map Prod.fst)] ++ rest = s8 at eb8 er8 k8 ⊢
  simp (implicitDefEqProofs := false) (dsimp := false) (failIfUnchanged := false) only [lz1, z_ifT, z_ifF, ks_nx, ks_rt, ks_bk, ks_ct, ks_xc, kl_nx, kl_rt, kl_bk, kl_ct, kl_xc, kc_nx, kc_rt, kc_xc, kt_nx, kt_rt, kt_bk, kt_ct, kt_xc, kh_nx, kh_rt, un_n, un_s, isNon_1, isNon_2, isNon_3, isNon_4, isNon_5, isNon_6, isNon_7, boolQ_1, intQ_1, optQ_1, lstQ_1, sqQ_1, sqQ_2, insQ_1, getIx_0, getIx_1, getIx_2, getIx_3, getIx_4, getIx_5, setIx_0, setIx_1, setIx_2, bindQ_nm, bindL_0, bindL_1, bindQ_tp, z_var, z_con, z_glo, z_bin, z_neg, z_cmp, z_chain, z_isN, z_notN, z_and, z_or, z_not, z_ife, z_call, z_make, methQ_1, z_meth, z_fld, z_pr, z_me, z_isi, z_idx, z_sli, z_abs0, z_tup, z_lst, z_fstr, z_efld, z_eisi, z_comp, z_Tcmp, z_Tchain, z_TisN, z_TnotN, z_Tand, z_Tor, z_Tnot, z_Ttv, z_nil, z_cons, z_Fnil, z_Fcons, z_Tsn, z_Ts1, z_rng1, int2Q_1, z_rng2, z_enm, z_zip, z_sq, z_Bnil, z_Bcons, z_asg, z_asgt, z_asg2, z_setf, z_seti, augQ_1, augQ_2, z_augn, z_augf, z_exp, z_ret, z_retN, z_if, z_for, z_whl, z_brk, z_cnt, z_pas, z_rais0, z_rais1, z_try, z_Hnil, z_Hcons, v_v0, v_vs, v_add, v_sub, v_mul, v_fdiv, v_mod, v_pow, v_sadd, v_tadd, v_ladd, v_lmul, v_int, v_intb, v_abs, v_max2, v_min2, v_stri, v_lens, v_lent, v_lenr, v_tupt, v_tupr, v_lstt, v_lstr, v_any, v_all, v_ixt, v_ixr, v_seti, v_pts, v_ptn, v_sls, v_slt, v_slr, v_fld, v_setf, v_okl, v_oks, v_app, v_pop, v_lt, v_le, v_gt, v_ge, v_eq, v_ne, v_in, v_ni, v_eqii, v_eqss, v_eqbb, v_eqsi, v_eqis, v_eqni, v_eqin, v_eqns, v_eqsn, v_trn, v_trb, v_tri, v_trt, v_trr, v_trs, v_fms, v_fmi, v_inp, v_inl, v_ins, t_n, t_b, t_i, t_s, t_t, t_r, tyO_1, tyO_2, tyO_3, tyO_4, y_n, y_b, y_i, y_s, y_t, y_l, y_d, y_o, y_o1, y_o2, y_o3, y_o4, y_o5, y_o6, w_t, w_s, w_r, w_e, w_zt, List.map_cons, List.map_nil, List.replicate_succ, List.replicate_zero, List.cons_append, List.nil_append, List.append_nil, List.set_cons_zero, List.set_cons_succ, List.any_cons, List.any_nil, List.lookup_cons_self, meT, reduceCtorEq, decide_true, decide_false, Bool.or_false, Bool.false_or, Bool.or_true, Bool.true_or, Bool.not_true, Bool.not_false, Bool.and_true, Bool.true_and, Bool.and_false, Bool.false_and, true_and, and_true, wipeE, List.getElem?_concat_length]
  refine islist eb8 er8 pl3 fun s9 h9 => ?_
  have er9 := h9.get er8
  have k9 := k8.trans h9
  simp (implicitDefEqProofs := false) (dsimp := false) (failIfUnchanged := false) only [lz1, z_ifT, z_ifF, ks_nx, ks_rt, ks_bk, ks_ct, ks_xc, kl_nx, kl_rt, kl_bk, kl_ct, kl_xc, kc_nx, kc_rt, kc_xc, kt_nx, kt_rt, kt_bk, kt_ct, kt_xc, kh_nx, kh_rt, un_n, un_s, isNon_1, isNon_2, isNon_3, isNon_4, isNon_5, isNon_6, isNon_7, boolQ_1, intQ_1, optQ_1, lstQ_1, sqQ_1, sqQ_2, insQ_1, getIx_0, getIx_1, getIx_2, getIx_3, getIx_4, getIx_5, setIx_0, setIx_1, setIx_2, bindQ_nm, bindL_0, bindL_1, bindQ_tp, z_var, z_con, z_glo, z_bin, z_neg, z_cmp, z_chain, z_isN, z_notN, z_and, z_or, z_not, z_ife, z_call, z_make, methQ_1, z_meth, z_fld, z_pr, z_me, z_isi, z_idx, z_sli, z_abs0, z_tup, z_lst, z_fstr, z_efld, z_eisi, z_comp, z_Tcmp, z_Tchain, z_TisN, z_TnotN, z_Tand, z_Tor, z_Tnot, z_Ttv, z_nil, z_cons, z_Fnil, z_Fcons, z_Tsn, z_Ts1, z_rng1, int2Q_1, z_rng2, z_enm, z_zip, z_sq, z_Bnil, z_Bcons, z_asg, z_asgt, z_asg2, z_setf, z_seti, augQ_1, augQ_2, z_augn, z_augf, z_exp, z_ret, z_retN, z_if, z_for, z_whl, z_brk, z_cnt, z_pas, z_rais0, z_rais1, z_try, z_Hnil, z_Hcons, v_v0, v_vs, v_add, v_sub, v_mul, v_fdiv, v_mod, v_pow, v_sadd, v_tadd, v_ladd, v_lmul, v_int, v_intb, v_abs, v_max2, v_min2, v_stri, v_lens, v_lent, v_lenr, v_tupt, v_tupr, v_lstt, v_lstr, v_any, v_all, v_ixt, v_ixr, v_seti, v_pts, v_ptn, v_sls, v_slt, v_slr, v_fld, v_setf, v_okl, v_oks, v_app, v_pop, v_lt, v_le, v_gt, v_ge, v_eq, v_ne, v_in, v_ni, v_eqii, v_eqss, v_eqbb, v_eqsi, v_eqis, v_eqni, v_eqin, v_eqns, v_eqsn, v_trn, v_trb, v_tri, v_trt, v_trr, v_trs, v_fms, v_fmi, v_inp, v_inl, v_ins, t_n, t_b, t_i, t_s, t_t, t_r, tyO_1, tyO_2, tyO_3, tyO_4, y_n, y_b, y_i, y_s, y_t, y_l, y_d, y_o, y_o1, y_o2, y_o3, y_o4, y_o5, y_o6, w_t, w_s, w_r, w_e, w_zt, List.map_cons, List.map_nil, List.replicate_succ, List.replicate_zero, List.cons_append, List.nil_append, List.append_nil, List.set_cons_zero, List.set_cons_succ, List.any_cons, List.any_nil, List.lookup_cons_self, meT, reduceCtorEq, decide_true, decide_false, Bool.or_false, Bool.false_or, Bool.or_true, Bool.true_or, Bool.not_true, Bool.not_false, Bool.and_true, Bool.true_and, Bool.and_false, Bool.false_and, true_and, and_true, wipeE, List.getElem?_concat_length, er9]
  refine weavingtext (get_snoc _ _) hp (by omega) (by omega) ?_
  rw [ht]
  simp (implicitDefEqProofs := false) (dsimp := false) (failIfUnchanged := false) only [lz1, z_ifT, z_ifF, ks_nx, ks_rt, ks_bk, ks_ct, ks_xc, kl_nx, kl_rt, kl_bk, kl_ct, kl_xc, kc_nx, kc_rt, kc_xc, kt_nx, kt_rt, kt_bk, kt_ct, kt_xc, kh_nx, kh_rt, un_n, un_s, isNon_1, isNon_2, isNon_3, isNon_4, isNon_5, isNon_6, isNon_7, boolQ_1, intQ_1, optQ_1, lstQ_1, sqQ_1, sqQ_2, insQ_1, getIx_0, getIx_1, getIx_2, getIx_3, getIx_4, getIx_5, setIx_0, setIx_1, setIx_2, bindQ_nm, bindL_0, bindL_1, bindQ_tp, z_var, z_con, z_glo, z_bin, z_neg, z_cmp, z_chain, z_isN, z_notN, z_and, z_or, z_not, z_ife, z_call, z_make, methQ_1, z_meth, z_fld, z_pr, z_me, z_isi, z_idx, z_sli, z_abs0, z_tup, z_lst, z_fstr, z_efld, z_eisi, z_comp, z_Tcmp, z_Tchain, z_TisN, z_TnotN, z_Tand, z_Tor, z_Tnot, z_Ttv, z_nil, z_cons, z_Fnil, z_Fcons, z_Tsn, z_Ts1, z_rng1, int2Q_1, z_rng2, z_enm, z_zip, z_sq, z_Bnil, z_Bcons, z_asg, z_asgt, z_asg2, z_setf, z_seti, augQ_1, augQ_2, z_augn, z_augf, z_exp, z_ret, z_retN, z_if, z_for, z_whl, z_brk, z_cnt, z_pas, z_rais0, z_rais1, z_try, z_Hnil, z_Hcons, v_v0, v_vs, v_add, v_sub, v_mul, v_fdiv, v_mod, v_pow, v_sadd, v_tadd, v_ladd, v_lmul, v_int, v_intb, v_abs, v_max2, v_min2, v_stri, v_lens, v_lent, v_lenr, v_tupt, v_tupr, v_lstt, v_lstr, v_any, v_all, v_ixt, v_ixr, v_seti, v_pts, v_ptn, v_sls, v_slt, v_slr, v_fld, v_setf, v_okl, v_oks, v_app, v_pop, v_lt, v_le, v_gt, v_ge, v_eq, v_ne, v_in, v_ni, v_eqii, v_eqss, v_eqbb, v_eqsi, v_eqis, v_eqni, v_eqin, v_eqns, v_eqsn, v_trn, v_trb, v_tri, v_trt, v_trr, v_trs, v_fms, v_fmi, v_inp, v_inl, v_ins, t_n, t_b, t_i, t_s, t_t, t_r, tyO_1, tyO_2, tyO_3, tyO_4, y_n, y_b, y_i, y_s, y_t, y_l, y_d, y_o, y_o1, y_o2, y_o3, y_o4, y_o5, y_o6, w_t, w_s, w_r, w_e, w_zt, List.map_cons, List.map_nil, List.replicate_succ, List.replicate_zero, List.cons_append, List.nil_append, List.append_nil, List.set_cons_zero, List.set_cons_succ, List.any_cons, List.any_nil, List.lookup_cons_self, meT, reduceCtorEq, decide_true, decide_false, Bool.or_false, Bool.false_or, Bool.or_true, Bool.true_or, Bool.not_true, Bool.not_false, Bool.and_true, Bool.true_and, Bool.and_false, Bool.false_and, true_and, and_true, wipeE, List.getElem?_concat_length]
  exact hq _ ((k9.app _).app _)
theorem lawstate {k : Nat} {ns : List Int} {st : Store} {Q : QE} {X : QX} (h1 : 1 ≤ ns.length) (h6 : ns.length ≤ 6) (hn : ∀ n ∈ ns, 0 ≤ n ∧ n < 9) (hq : ∀ s, Keep st s → Q (.bl true) s) : Call T (k + 4) 26 [.tup (ns.map D.int)] st Q X := by
  refine call_z f__law_state.fn rfl rfl ?_
  show wpB T (Call T (k + 3)) none b__law_state [some (.tup (ns.map D.int)), none, none, none] st _
  unfold b__law_state
  simp (implicitDefEqProofs := false) (dsimp := false) (failIfUnchanged := false) only [lz1, z_ifT, z_ifF, ks_nx, ks_rt, ks_bk, ks_ct, ks_xc, kl_nx, kl_rt, kl_bk, kl_ct, kl_xc, kc_nx, kc_rt, kc_xc, kt_nx, kt_rt, kt_bk, kt_ct, kt_xc, kh_nx, kh_rt, un_n, un_s, isNon_1, isNon_2, isNon_3, isNon_4, isNon_5, isNon_6, isNon_7, boolQ_1, intQ_1, optQ_1, lstQ_1, sqQ_1, sqQ_2, insQ_1, getIx_0, getIx_1, getIx_2, getIx_3, getIx_4, getIx_5, setIx_0, setIx_1, setIx_2, bindQ_nm, bindL_0, bindL_1, bindQ_tp, z_var, z_con, z_glo, z_bin, z_neg, z_cmp, z_chain, z_isN, z_notN, z_and, z_or, z_not, z_ife, z_call, z_make, methQ_1, z_meth, z_fld, z_pr, z_me, z_isi, z_idx, z_sli, z_abs0, z_tup, z_lst, z_fstr, z_efld, z_eisi, z_comp, z_Tcmp, z_Tchain, z_TisN, z_TnotN, z_Tand, z_Tor, z_Tnot, z_Ttv, z_nil, z_cons, z_Fnil, z_Fcons, z_Tsn, z_Ts1, z_rng1, int2Q_1, z_rng2, z_enm, z_zip, z_sq, z_Bnil, z_Bcons, z_asg, z_asgt, z_asg2, z_setf, z_seti, augQ_1, augQ_2, z_augn, z_augf, z_exp, z_ret, z_retN, z_if, z_for, z_whl, z_brk, z_cnt, z_pas, z_rais0, z_rais1, z_try, z_Hnil, z_Hcons, v_v0, v_vs, v_add, v_sub, v_mul, v_fdiv, v_mod, v_pow, v_sadd, v_tadd, v_ladd, v_lmul, v_int, v_intb, v_abs, v_max2, v_min2, v_stri, v_lens, v_lent, v_lenr, v_tupt, v_tupr, v_lstt, v_lstr, v_any, v_all, v_ixt, v_ixr, v_seti, v_pts, v_ptn, v_sls, v_slt, v_slr, v_fld, v_setf, v_okl, v_oks, v_app, v_pop, v_lt, v_le, v_gt, v_ge, v_eq, v_ne, v_in, v_ni, v_eqii, v_eqss, v_eqbb, v_eqsi, v_eqis, v_eqni, v_eqin, v_eqns, v_eqsn, v_trn, v_trb, v_tri, v_trt, v_trr, v_trs, v_fms, v_fmi, v_inp, v_inl, v_ins, t_n, t_b, t_i, t_s, t_t, t_r, tyO_1, tyO_2, tyO_3, tyO_4, y_n, y_b, y_i, y_s, y_t, y_l, y_d, y_o, y_o1, y_o2, y_o3, y_o4, y_o5, y_o6, w_t, w_s, w_r, w_e, w_zt, List.map_cons, List.map_nil, List.replicate_succ, List.replicate_zero, List.cons_append, List.nil_append, List.append_nil, List.set_cons_zero, List.set_cons_succ, List.any_cons, List.any_nil, List.lookup_cons_self, meT, reduceCtorEq, decide_true, decide_false, Bool.or_false, Bool.false_or, Bool.or_true, Bool.true_or, Bool.not_true, Bool.not_false, Bool.and_true, Bool.true_and, Bool.and_false, Bool.false_and, true_and, and_true, wipeE, List.getElem?_concat_length]
  refine cmp_s (fun r acc s' => ∃ done qs, ns = done ++ qs ∧ r = qs.map D.int ∧ acc = (done.map dg).map D.str ∧ s' = st ++ [.lst acc]) ⟨[], ns, rfl, rfl, rfl, rfl⟩ (fun d r acc s' N ⟨done, qs, e1, e2, e3, e4⟩ hN => ?_) (fun acc s' ⟨done, qs, e1, e2, e3, e4⟩ => ?_)
  · subst e4
    cases qs with
    | nil => cases e2
    | cons q qs =>
      cases e2
      have q1 := hn q (by rw [e1]; simp)
      simp (implicitDefEqProofs := false) (dsimp := false) (failIfUnchanged := false) only [lz1, z_ifT, z_ifF, ks_nx, ks_rt, ks_bk, ks_ct, ks_xc, kl_nx, kl_rt, kl_bk, kl_ct, kl_xc, kc_nx, kc_rt, kc_xc, kt_nx, kt_rt, kt_bk, kt_ct, kt_xc, kh_nx, kh_rt, un_n, un_s, isNon_1, isNon_2, isNon_3, isNon_4, isNon_5, isNon_6, isNon_7, boolQ_1, intQ_1, optQ_1, lstQ_1, sqQ_1, sqQ_2, insQ_1, getIx_0, getIx_1, getIx_2, getIx_3, getIx_4, getIx_5, setIx_0, setIx_1, setIx_2, bindQ_nm, bindL_0, bindL_1, bindQ_tp, z_var, z_con, z_glo, z_bin, z_neg, z_cmp, z_chain, z_isN, z_notN, z_and, z_or, z_not, z_ife, z_call, z_make, methQ_1, z_meth, z_fld, z_pr, z_me, z_isi, z_idx, z_sli, z_abs0, z_tup, z_lst, z_fstr, z_efld, z_eisi, z_comp, z_Tcmp, z_Tchain, z_TisN, z_TnotN, z_Tand, z_Tor, z_Tnot, z_Ttv, z_nil, z_cons, z_Fnil, z_Fcons, z_Tsn, z_Ts1, z_rng1, int2Q_1, z_rng2, z_enm, z_zip, z_sq, z_Bnil, z_Bcons, z_asg, z_asgt, z_asg2, z_setf, z_seti, augQ_1, augQ_2, z_augn, z_augf, z_exp, z_ret, z_retN, z_if, z_for, z_whl, z_brk, z_cnt, z_pas, z_rais0, z_rais1, z_try, z_Hnil, z_Hcons, v_v0, v_vs, v_add, v_sub, v_mul, v_fdiv, v_mod, v_pow, v_sadd, v_tadd, v_ladd, v_lmul, v_int, v_intb, v_abs, v_max2, v_min2, v_stri, v_lens, v_lent, v_lenr, v_tupt, v_tupr, v_lstt, v_lstr, v_any, v_all, v_ixt, v_ixr, v_seti, v_pts, v_ptn, v_sls, v_slt, v_slr, v_fld, v_setf, v_okl, v_oks, v_app, v_pop, v_lt, v_le, v_gt, v_ge, v_eq, v_ne, v_in, v_ni, v_eqii, v_eqss, v_eqbb, v_eqsi, v_eqis, v_eqni, v_eqin, v_eqns, v_eqsn, v_trn, v_trb, v_tri, v_trt, v_trr, v_trs, v_fms, v_fmi, v_inp, v_inl, v_ins, t_n, t_b, t_i, t_s, t_t, t_r, tyO_1, tyO_2, tyO_3, tyO_4, y_n, y_b, y_i, y_s, y_t, y_l, y_d, y_o, y_o1, y_o2, y_o3, y_o4, y_o5, y_o6, w_t, w_s, w_r, w_e, w_zt, List.map_cons, List.map_nil, List.replicate_succ, List.replicate_zero, List.cons_append, List.nil_append, List.append_nil, List.set_cons_zero, List.set_cons_succ, List.any_cons, List.any_nil, List.lookup_cons_self, meT, reduceCtorEq, decide_true, decide_false, Bool.or_false, Bool.false_or, Bool.or_true, Bool.true_or, Bool.not_true, Bool.not_false, Bool.and_true, Bool.true_and, Bool.and_false, Bool.false_and, true_and, and_true, wipeE, List.getElem?_concat_length]
      refine ⟨log_ok q1.1 q1.2, ?_⟩
      rw [dec_dg q1.1 q1.2]
      simp (implicitDefEqProofs := false) (dsimp := false) (failIfUnchanged := false) only [lz1, z_ifT, z_ifF, ks_nx, ks_rt, ks_bk, ks_ct, ks_xc, kl_nx, kl_rt, kl_bk, kl_ct, kl_xc, kc_nx, kc_rt, kc_xc, kt_nx, kt_rt, kt_bk, kt_ct, kt_xc, kh_nx, kh_rt, un_n, un_s, isNon_1, isNon_2, isNon_3, isNon_4, isNon_5, isNon_6, isNon_7, boolQ_1, intQ_1, optQ_1, lstQ_1, sqQ_1, sqQ_2, insQ_1, getIx_0, getIx_1, getIx_2, getIx_3, getIx_4, getIx_5, setIx_0, setIx_1, setIx_2, bindQ_nm, bindL_0, bindL_1, bindQ_tp, z_var, z_con, z_glo, z_bin, z_neg, z_cmp, z_chain, z_isN, z_notN, z_and, z_or, z_not, z_ife, z_call, z_make, methQ_1, z_meth, z_fld, z_pr, z_me, z_isi, z_idx, z_sli, z_abs0, z_tup, z_lst, z_fstr, z_efld, z_eisi, z_comp, z_Tcmp, z_Tchain, z_TisN, z_TnotN, z_Tand, z_Tor, z_Tnot, z_Ttv, z_nil, z_cons, z_Fnil, z_Fcons, z_Tsn, z_Ts1, z_rng1, int2Q_1, z_rng2, z_enm, z_zip, z_sq, z_Bnil, z_Bcons, z_asg, z_asgt, z_asg2, z_setf, z_seti, augQ_1, augQ_2, z_augn, z_augf, z_exp, z_ret, z_retN, z_if, z_for, z_whl, z_brk, z_cnt, z_pas, z_rais0, z_rais1, z_try, z_Hnil, z_Hcons, v_v0, v_vs, v_add, v_sub, v_mul, v_fdiv, v_mod, v_pow, v_sadd, v_tadd, v_ladd, v_lmul, v_int, v_intb, v_abs, v_max2, v_min2, v_stri, v_lens, v_lent, v_lenr, v_tupt, v_tupr, v_lstt, v_lstr, v_any, v_all, v_ixt, v_ixr, v_seti, v_pts, v_ptn, v_sls, v_slt, v_slr, v_fld, v_setf, v_okl, v_oks, v_app, v_pop, v_lt, v_le, v_gt, v_ge, v_eq, v_ne, v_in, v_ni, v_eqii, v_eqss, v_eqbb, v_eqsi, v_eqis, v_eqni, v_eqin, v_eqns, v_eqsn, v_trn, v_trb, v_tri, v_trt, v_trr, v_trs, v_fms, v_fmi, v_inp, v_inl, v_ins, t_n, t_b, t_i, t_s, t_t, t_r, tyO_1, tyO_2, tyO_3, tyO_4, y_n, y_b, y_i, y_s, y_t, y_l, y_d, y_o, y_o1, y_o2, y_o3, y_o4, y_o5, y_o6, w_t, w_s, w_r, w_e, w_zt, List.map_cons, List.map_nil, List.replicate_succ, List.replicate_zero, List.cons_append, List.nil_append, List.append_nil, List.set_cons_zero, List.set_cons_succ, List.any_cons, List.any_nil, List.lookup_cons_self, meT, reduceCtorEq, decide_true, decide_false, Bool.or_false, Bool.false_or, Bool.or_true, Bool.true_or, Bool.not_true, Bool.not_false, Bool.and_true, Bool.true_and, Bool.and_false, Bool.false_and, true_and, and_true, wipeE, List.getElem?_concat_length]
      refine ⟨lt_line (by rw [e3]; have := congrArg List.length e1; simp at this ⊢; omega), ?_⟩
      refine hN _ _ ⟨done ++ [q], qs, join_snoc e1, rfl, ?_, set_last _ _ _⟩
      rw [e3]
      simp
  · subst e4
    cases qs with
    | cons q qs => cases e2
    | nil =>
      rw [List.append_nil] at e1
      subst e1 e3
      simp (implicitDefEqProofs := false) (dsimp := false) (failIfUnchanged := false) only [lz1, z_ifT, z_ifF, ks_nx, ks_rt, ks_bk, ks_ct, ks_xc, kl_nx, kl_rt, kl_bk, kl_ct, kl_xc, kc_nx, kc_rt, kc_xc, kt_nx, kt_rt, kt_bk, kt_ct, kt_xc, kh_nx, kh_rt, un_n, un_s, isNon_1, isNon_2, isNon_3, isNon_4, isNon_5, isNon_6, isNon_7, boolQ_1, intQ_1, optQ_1, lstQ_1, sqQ_1, sqQ_2, insQ_1, getIx_0, getIx_1, getIx_2, getIx_3, getIx_4, getIx_5, setIx_0, setIx_1, setIx_2, bindQ_nm, bindL_0, bindL_1, bindQ_tp, z_var, z_con, z_glo, z_bin, z_neg, z_cmp, z_chain, z_isN, z_notN, z_and, z_or, z_not, z_ife, z_call, z_make, methQ_1, z_meth, z_fld, z_pr, z_me, z_isi, z_idx, z_sli, z_abs0, z_tup, z_lst, z_fstr, z_efld, z_eisi, z_comp, z_Tcmp, z_Tchain, z_TisN, z_TnotN, z_Tand, z_Tor, z_Tnot, z_Ttv, z_nil, z_cons, z_Fnil, z_Fcons, z_Tsn, z_Ts1, z_rng1, int2Q_1, z_rng2, z_enm, z_zip, z_sq, z_Bnil, z_Bcons, z_asg, z_asgt, z_asg2, z_setf, z_seti, augQ_1, augQ_2, z_augn, z_augf, z_exp, z_ret, z_retN, z_if, z_for, z_whl, z_brk, z_cnt, z_pas, z_rais0, z_rais1, z_try, z_Hnil, z_Hcons, v_v0, v_vs, v_add, v_sub, v_mul, v_fdiv, v_mod, v_pow, v_sadd, v_tadd, v_ladd, v_lmul, v_int, v_intb, v_abs, v_max2, v_min2, v_stri, v_lens, v_lent, v_lenr, v_tupt, v_tupr, v_lstt, v_lstr, v_any, v_all, v_ixt, v_ixr, v_seti, v_pts, v_ptn, v_sls, v_slt, v_slr, v_fld, v_setf, v_okl, v_oks, v_app, v_pop, v_lt, v_le, v_gt, v_ge, v_eq, v_ne, v_in, v_ni, v_eqii, v_eqss, v_eqbb, v_eqsi, v_eqis, v_eqni, v_eqin, v_eqns, v_eqsn, v_trn, v_trb, v_tri, v_trt, v_trr, v_trs, v_fms, v_fmi, v_inp, v_inl, v_ins, t_n, t_b, t_i, t_s, t_t, t_r, tyO_1, tyO_2, tyO_3, tyO_4, y_n, y_b, y_i, y_s, y_t, y_l, y_d, y_o, y_o1, y_o2, y_o3, y_o4, y_o5, y_o6, w_t, w_s, w_r, w_e, w_zt, List.map_cons, List.map_nil, List.replicate_succ, List.replicate_zero, List.cons_append, List.nil_append, List.append_nil, List.set_cons_zero, List.set_cons_succ, List.any_cons, List.any_nil, List.lookup_cons_self, meT, reduceCtorEq, decide_true, decide_false, Bool.or_false, Bool.false_or, Bool.or_true, Bool.true_or, Bool.not_true, Bool.not_false, Bool.and_true, Bool.true_and, Bool.and_false, Bool.false_and, true_and, and_true, wipeE, List.getElem?_concat_length]
      refine go_join (ys := ns.map dg) (seq_l (get_snoc _ _)) (by rw [dgs_len]; simp; omega) ?_
      rw [show TL.joinL [32] (ns.map dg) = stx ns from rfl]
      simp (implicitDefEqProofs := false) (dsimp := false) (failIfUnchanged := false) only [lz1, z_ifT, z_ifF, ks_nx, ks_rt, ks_bk, ks_ct, ks_xc, kl_nx, kl_rt, kl_bk, kl_ct, kl_xc, kc_nx, kc_rt, kc_xc, kt_nx, kt_rt, kt_bk, kt_ct, kt_xc, kh_nx, kh_rt, un_n, un_s, isNon_1, isNon_2, isNon_3, isNon_4, isNon_5, isNon_6, isNon_7, boolQ_1, intQ_1, optQ_1, lstQ_1, sqQ_1, sqQ_2, insQ_1, getIx_0, getIx_1, getIx_2, getIx_3, getIx_4, getIx_5, setIx_0, setIx_1, setIx_2, bindQ_nm, bindL_0, bindL_1, bindQ_tp, z_var, z_con, z_glo, z_bin, z_neg, z_cmp, z_chain, z_isN, z_notN, z_and, z_or, z_not, z_ife, z_call, z_make, methQ_1, z_meth, z_fld, z_pr, z_me, z_isi, z_idx, z_sli, z_abs0, z_tup, z_lst, z_fstr, z_efld, z_eisi, z_comp, z_Tcmp, z_Tchain, z_TisN, z_TnotN, z_Tand, z_Tor, z_Tnot, z_Ttv, z_nil, z_cons, z_Fnil, z_Fcons, z_Tsn, z_Ts1, z_rng1, int2Q_1, z_rng2, z_enm, z_zip, z_sq, z_Bnil, z_Bcons, z_asg, z_asgt, z_asg2, z_setf, z_seti, augQ_1, augQ_2, z_augn, z_augf, z_exp, z_ret, z_retN, z_if, z_for, z_whl, z_brk, z_cnt, z_pas, z_rais0, z_rais1, z_try, z_Hnil, z_Hcons, v_v0, v_vs, v_add, v_sub, v_mul, v_fdiv, v_mod, v_pow, v_sadd, v_tadd, v_ladd, v_lmul, v_int, v_intb, v_abs, v_max2, v_min2, v_stri, v_lens, v_lent, v_lenr, v_tupt, v_tupr, v_lstt, v_lstr, v_any, v_all, v_ixt, v_ixr, v_seti, v_pts, v_ptn, v_sls, v_slt, v_slr, v_fld, v_setf, v_okl, v_oks, v_app, v_pop, v_lt, v_le, v_gt, v_ge, v_eq, v_ne, v_in, v_ni, v_eqii, v_eqss, v_eqbb, v_eqsi, v_eqis, v_eqni, v_eqin, v_eqns, v_eqsn, v_trn, v_trb, v_tri, v_trt, v_trr, v_trs, v_fms, v_fmi, v_inp, v_inl, v_ins, t_n, t_b, t_i, t_s, t_t, t_r, tyO_1, tyO_2, tyO_3, tyO_4, y_n, y_b, y_i, y_s, y_t, y_l, y_d, y_o, y_o1, y_o2, y_o3, y_o4, y_o5, y_o6, w_t, w_s, w_r, w_e, w_zt, List.map_cons, List.map_nil, List.replicate_succ, List.replicate_zero, List.cons_append, List.nil_append, List.append_nil, List.set_cons_zero, List.set_cons_succ, List.any_cons, List.any_nil, List.lookup_cons_self, meT, reduceCtorEq, decide_true, decide_false, Bool.or_false, Bool.false_or, Bool.or_true, Bool.true_or, Bool.not_true, Bool.not_false, Bool.and_true, Bool.true_and, Bool.and_false, Bool.false_and, true_and, and_true, wipeE, List.getElem?_concat_length]
      refine statetext h1 h6 hn fun rest => ?_
      simp (implicitDefEqProofs := false) (dsimp := false) (failIfUnchanged := false) only [lz1, z_ifT, z_ifF, ks_nx, ks_rt, ks_bk, ks_ct, ks_xc, kl_nx, kl_rt, kl_bk, kl_ct, kl_xc, kc_nx, kc_rt, kc_xc, kt_nx, kt_rt, kt_bk, kt_ct, kt_xc, kh_nx, kh_rt, un_n, un_s, isNon_1, isNon_2, isNon_3, isNon_4, isNon_5, isNon_6, isNon_7, boolQ_1, intQ_1, optQ_1, lstQ_1, sqQ_1, sqQ_2, insQ_1, getIx_0, getIx_1, getIx_2, getIx_3, getIx_4, getIx_5, setIx_0, setIx_1, setIx_2, bindQ_nm, bindL_0, bindL_1, bindQ_tp, z_var, z_con, z_glo, z_bin, z_neg, z_cmp, z_chain, z_isN, z_notN, z_and, z_or, z_not, z_ife, z_call, z_make, methQ_1, z_meth, z_fld, z_pr, z_me, z_isi, z_idx, z_sli, z_abs0, z_tup, z_lst, z_fstr, z_efld, z_eisi, z_comp, z_Tcmp, z_Tchain, z_TisN, z_TnotN, z_Tand, z_Tor, z_Tnot, z_Ttv, z_nil, z_cons, z_Fnil, z_Fcons, z_Tsn, z_Ts1, z_rng1, int2Q_1, z_rng2, z_enm, z_zip, z_sq, z_Bnil, z_Bcons, z_asg, z_asgt, z_asg2, z_setf, z_seti, augQ_1, augQ_2, z_augn, z_augf, z_exp, z_ret, z_retN, z_if, z_for, z_whl, z_brk, z_cnt, z_pas, z_rais0, z_rais1, z_try, z_Hnil, z_Hcons, v_v0, v_vs, v_add, v_sub, v_mul, v_fdiv, v_mod, v_pow, v_sadd, v_tadd, v_ladd, v_lmul, v_int, v_intb, v_abs, v_max2, v_min2, v_stri, v_lens, v_lent, v_lenr, v_tupt, v_tupr, v_lstt, v_lstr, v_any, v_all, v_ixt, v_ixr, v_seti, v_pts, v_ptn, v_sls, v_slt, v_slr, v_fld, v_setf, v_okl, v_oks, v_app, v_pop, v_lt, v_le, v_gt, v_ge, v_eq, v_ne, v_in, v_ni, v_eqii, v_eqss, v_eqbb, v_eqsi, v_eqis, v_eqni, v_eqin, v_eqns, v_eqsn, v_trn, v_trb, v_tri, v_trt, v_trr, v_trs, v_fms, v_fmi, v_inp, v_inl, v_ins, t_n, t_b, t_i, t_s, t_t, t_r, tyO_1, tyO_2, tyO_3, tyO_4, y_n, y_b, y_i, y_s, y_t, y_l, y_d, y_o, y_o1, y_o2, y_o3, y_o4, y_o5, y_o6, w_t, w_s, w_r, w_e, w_zt, List.map_cons, List.map_nil, List.replicate_succ, List.replicate_zero, List.cons_append, List.nil_append, List.append_nil, List.set_cons_zero, List.set_cons_succ, List.any_cons, List.any_nil, List.lookup_cons_self, meT, reduceCtorEq, decide_true, decide_false, Bool.or_false, Bool.false_or, Bool.or_true, Bool.true_or, Bool.not_true, Bool.not_false, Bool.and_true, Bool.true_and, Bool.and_false, Bool.false_and, true_and, and_true, wipeE, List.getElem?_concat_length]
      refine readstate h1 h6 hn fun rest2 => ?_
      simp (implicitDefEqProofs := false) (dsimp := false) (failIfUnchanged := false) only [lz1, z_ifT, z_ifF, ks_nx, ks_rt, ks_bk, ks_ct, ks_xc, kl_nx, kl_rt, kl_bk, kl_ct, kl_xc, kc_nx, kc_rt, kc_xc, kt_nx, kt_rt, kt_bk, kt_ct, kt_xc, kh_nx, kh_rt, un_n, un_s, isNon_1, isNon_2, isNon_3, isNon_4, isNon_5, isNon_6, isNon_7, boolQ_1, intQ_1, optQ_1, lstQ_1, sqQ_1, sqQ_2, insQ_1, getIx_0, getIx_1, getIx_2, getIx_3, getIx_4, getIx_5, setIx_0, setIx_1, setIx_2, bindQ_nm, bindL_0, bindL_1, bindQ_tp, z_var, z_con, z_glo, z_bin, z_neg, z_cmp, z_chain, z_isN, z_notN, z_and, z_or, z_not, z_ife, z_call, z_make, methQ_1, z_meth, z_fld, z_pr, z_me, z_isi, z_idx, z_sli, z_abs0, z_tup, z_lst, z_fstr, z_efld, z_eisi, z_comp, z_Tcmp, z_Tchain, z_TisN, z_TnotN, z_Tand, z_Tor, z_Tnot, z_Ttv, z_nil, z_cons, z_Fnil, z_Fcons, z_Tsn, z_Ts1, z_rng1, int2Q_1, z_rng2, z_enm, z_zip, z_sq, z_Bnil, z_Bcons, z_asg, z_asgt, z_asg2, z_setf, z_seti, augQ_1, augQ_2, z_augn, z_augf, z_exp, z_ret, z_retN, z_if, z_for, z_whl, z_brk, z_cnt, z_pas, z_rais0, z_rais1, z_try, z_Hnil, z_Hcons, v_v0, v_vs, v_add, v_sub, v_mul, v_fdiv, v_mod, v_pow, v_sadd, v_tadd, v_ladd, v_lmul, v_int, v_intb, v_abs, v_max2, v_min2, v_stri, v_lens, v_lent, v_lenr, v_tupt, v_tupr, v_lstt, v_lstr, v_any, v_all, v_ixt, v_ixr, v_seti, v_pts, v_ptn, v_sls, v_slt, v_slr, v_fld, v_setf, v_okl, v_oks, v_app, v_pop, v_lt, v_le, v_gt, v_ge, v_eq, v_ne, v_in, v_ni, v_eqii, v_eqss, v_eqbb, v_eqsi, v_eqis, v_eqni, v_eqin, v_eqns, v_eqsn, v_trn, v_trb, v_tri, v_trt, v_trr, v_trs, v_fms, v_fmi, v_inp, v_inl, v_ins, t_n, t_b, t_i, t_s, t_t, t_r, tyO_1, tyO_2, tyO_3, tyO_4, y_n, y_b, y_i, y_s, y_t, y_l, y_d, y_o, y_o1, y_o2, y_o3, y_o4, y_o5, y_o6, w_t, w_s, w_r, w_e, w_zt, List.map_cons, List.map_nil, List.replicate_succ, List.replicate_zero, List.cons_append, List.nil_append, List.append_nil, List.set_cons_zero, List.set_cons_succ, List.any_cons, List.any_nil, List.lookup_cons_self, meT, reduceCtorEq, decide_true, decide_false, Bool.or_false, Bool.false_or, Bool.or_true, Bool.true_or, Bool.not_true, Bool.not_false, Bool.and_true, Bool.true_and, Bool.and_false, Bool.false_and, true_and, and_true, wipeE, List.getElem?_concat_length]
      refine same 2 (.tup (ns.map D.int)) ⟨by simp; omega, fun d hd => ?_⟩ k _ _ _ fun s ks => ?_
      · obtain ⟨n, _, rfl⟩ := List.mem_map.mp hd
        trivial
      · simp (implicitDefEqProofs := false) (dsimp := false) (failIfUnchanged := false) only [lz1, z_ifT, z_ifF, ks_nx, ks_rt, ks_bk, ks_ct, ks_xc, kl_nx, kl_rt, kl_bk, kl_ct, kl_xc, kc_nx, kc_rt, kc_xc, kt_nx, kt_rt, kt_bk, kt_ct, kt_xc, kh_nx, kh_rt, un_n, un_s, isNon_1, isNon_2, isNon_3, isNon_4, isNon_5, isNon_6, isNon_7, boolQ_1, intQ_1, optQ_1, lstQ_1, sqQ_1, sqQ_2, insQ_1, getIx_0, getIx_1, getIx_2, getIx_3, getIx_4, getIx_5, setIx_0, setIx_1, setIx_2, bindQ_nm, bindL_0, bindL_1, bindQ_tp, z_var, z_con, z_glo, z_bin, z_neg, z_cmp, z_chain, z_isN, z_notN, z_and, z_or, z_not, z_ife, z_call, z_make, methQ_1, z_meth, z_fld, z_pr, z_me, z_isi, z_idx, z_sli, z_abs0, z_tup, z_lst, z_fstr, z_efld, z_eisi, z_comp, z_Tcmp, z_Tchain, z_TisN, z_TnotN, z_Tand, z_Tor, z_Tnot, z_Ttv, z_nil, z_cons, z_Fnil, z_Fcons, z_Tsn, z_Ts1, z_rng1, int2Q_1, z_rng2, z_enm, z_zip, z_sq, z_Bnil, z_Bcons, z_asg, z_asgt, z_asg2, z_setf, z_seti, augQ_1, augQ_2, z_augn, z_augf, z_exp, z_ret, z_retN, z_if, z_for, z_whl, z_brk, z_cnt, z_pas, z_rais0, z_rais1, z_try, z_Hnil, z_Hcons, v_v0, v_vs, v_add, v_sub, v_mul, v_fdiv, v_mod, v_pow, v_sadd, v_tadd, v_ladd, v_lmul, v_int, v_intb, v_abs, v_max2, v_min2, v_stri, v_lens, v_lent, v_lenr, v_tupt, v_tupr, v_lstt, v_lstr, v_any, v_all, v_ixt, v_ixr, v_seti, v_pts, v_ptn, v_sls, v_slt, v_slr, v_fld, v_setf, v_okl, v_oks, v_app, v_pop, v_lt, v_le, v_gt, v_ge, v_eq, v_ne, v_in, v_ni, v_eqii, v_eqss, v_eqbb, v_eqsi, v_eqis, v_eqni, v_eqin, v_eqns, v_eqsn, v_trn, v_trb, v_tri, v_trt, v_trr, v_trs, v_fms, v_fmi, v_inp, v_inl, v_ins, t_n, t_b, t_i, t_s, t_t, t_r, tyO_1, tyO_2, tyO_3, tyO_4, y_n, y_b, y_i, y_s, y_t, y_l, y_d, y_o, y_o1, y_o2, y_o3, y_o4, y_o5, y_o6, w_t, w_s, w_r, w_e, w_zt, List.map_cons, List.map_nil, List.replicate_succ, List.replicate_zero, List.cons_append, List.nil_append, List.append_nil, List.set_cons_zero, List.set_cons_succ, List.any_cons, List.any_nil, List.lookup_cons_self, meT, reduceCtorEq, decide_true, decide_false, Bool.or_false, Bool.false_or, Bool.or_true, Bool.true_or, Bool.not_true, Bool.not_false, Bool.and_true, Bool.true_and, Bool.and_false, Bool.false_and, true_and, and_true, wipeE, List.getElem?_concat_length]
        exact hq _ (((Keep.new _ _).app _ |>.app _).trans ks)
end Y.K_k17
set_option linter.all false
set_option maxHeartbeats 4000000
set_option maxRecDepth 100000
namespace Y.K_k17
open Y PySem
theorem Ch.get {h g : Nat} {a b : Store} {o : O} (x : Ch h a b) (e : a[g]? = some o) (ne : g ≠ h) : b[g]? = some o := (x.same g ne (lt_of_get e)).trans e
theorem Ch.pool2 {h g : Nat} {a b : Store} (x : Ch h a b) (p : Pool g a) (ne : g ≠ h) : Pool g b := by
  obtain ⟨c, s, t, e, q⟩ := p
  exact ⟨c, s, t, x.get e ne, q⟩
theorem Pool.keep {g : Nat} {a b : Store} (p : Pool g a) (x : Keep a b) : Pool g b := by
  obtain ⟨c, s, t, e, q⟩ := p
  exact ⟨c, s, t, x.get e, q⟩
theorem Pool.at {g : Nat} {a : Store} (p : Pool g a) : ∃ o, a[g]? = some o := by
  obtain ⟨c, s, t, e, q⟩ := p
  exact ⟨_, e⟩
theorem row_of {ds : List D} (h : ∀ d ∈ ds, IsCall d) : ∃ ps : List (D × List Nat), ds = ps.map Prod.fst ∧ ∀ p ∈ ps, CallTx p.1 p.2 := by
  induction ds with
  | nil => exact ⟨[], rfl, fun p m => by cases m⟩
  | cons d ds ih =>
    obtain ⟨ps, e, q⟩ := ih fun x m => h x (List.mem_cons_of_mem _ m)
    obtain ⟨x, n, e1, hx, n0, n1⟩ := h d List.mem_cons_self
    refine ⟨(d, ct x n) :: ps, by rw [e]; rfl, fun p m => ?_⟩
    rcases List.mem_cons.mp m with z | z
    · rw [z, e1]
      exact .mk x n hx n0 n1
    · exact q p z
theorem weaving_of {ds : List D} (h : ∀ d ∈ ds, IsItem d) : ∃ ps : List (D × List Nat), ds = ps.map Prod.fst ∧ ∀ p ∈ ps, ItemTx p.1 p.2 := by
  induction ds with
  | nil => exact ⟨[], rfl, fun p m => by cases m⟩
  | cons d ds ih =>
    obtain ⟨ps, e, q⟩ := ih fun x m => h x (List.mem_cons_of_mem _ m)
    rcases h d List.mem_cons_self with ⟨n, e1, n0, n1⟩ | ⟨n, c, e1, n0, n1, x, m', e2, hx, m0, m1⟩
    · refine ⟨(d, it1 n) :: ps, by rw [e]; rfl, fun p m => ?_⟩
      rcases List.mem_cons.mp m with z | z
      · rw [z, e1]
        exact .step n n0 n1
      · exact q p z
    · refine ⟨(d, it2 n x m') :: ps, by rw [e]; rfl, fun p m => ?_⟩
      rcases List.mem_cons.mp m with z | z
      · rw [z, e1, e2]
        exact .call n m' x n0 n1 hx m0 m1
      · exact q p z
theorem ints_of {ds : List D} (h : ∀ d ∈ ds, ∃ n : Int, d = .int n ∧ 0 ≤ n ∧ n < 9) : ∃ ns : List Int, ds = ns.map D.int ∧ ∀ n ∈ ns, 0 ≤ n ∧ n < 9 := by
  induction ds with
  | nil => exact ⟨[], rfl, fun p m => by cases m⟩
  | cons d ds ih =>
    obtain ⟨ns, e, q⟩ := ih fun x m => h x (List.mem_cons_of_mem _ m)
    obtain ⟨n, e1, n0, n1⟩ := h d List.mem_cons_self
    refine ⟨n :: ns, by rw [e, e1]; rfl, fun p m => ?_⟩
    rcases List.mem_cons.mp m with z | z
    · rw [z]; exact ⟨n0, n1⟩
    · exact q p z
theorem gen {v h n : Nat} {elt : Env → Store → QE → Prop} {tests : Env → Store → (Bool → Store → Prop) → Prop} {env : Env} {st : Store} {Q : QE} (R : D → Prop) (hn : n ≤ 1000) (p : Pool h st)
    (ht : ∀ e s P, P true s → tests e s P)
    (turn : ∀ (e : Env) (i : Int) (s : Store) (Q' : QE), e = env.set v (some (.int i)) → Pool h s → (∀ d s', R d → Ch h s s' → Q' d s') → elt e s Q')
    (done : ∀ ds s, ds.length = n → (∀ d ∈ ds, R d) → s[st.length]? = some (.lst ds) → Ch h st s → Q (.ref st.length) s) :
    ∃ m, cmpN (.seq (rngD 0 n)) (.nm v) tests elt st.length Q m 0 env (st ++ [.lst []]) := by
  rw [rngD_rg]
  have ne : st.length ≠ h := Nat.ne_of_gt p.lt
  refine cmp_s (fun r acc s => ∃ i m, i + m = n ∧ r = rg i m ∧ acc.length = i ∧ (∀ d ∈ acc, R d) ∧ s[st.length]? = some (.lst acc) ∧ Ch h st s) ⟨0, n, by omega, rfl, rfl, fun _ m => (by cases m), get_snoc _ _, (Ch.refl p).app⟩ (fun d r acc s N ⟨i, m, e1, e2, e3, e4, e5, e6⟩ hN => ?_) (fun acc s ⟨i, m, e1, e2, e3, e4, e5, e6⟩ => ?_)
  · cases m with
    | zero => cases e2
    | succ m =>
      rw [rg_succ] at e2
      cases e2
      refine ht _ _ _ ?_
      simp (implicitDefEqProofs := false) (dsimp := false) (failIfUnchanged := false) only [lz1, z_ifT, z_ifF, ks_nx, ks_rt, ks_bk, ks_ct, ks_xc, kl_nx, kl_rt, kl_bk, kl_ct, kl_xc, kc_nx, kc_rt, kc_xc, kt_nx, kt_rt, kt_bk, kt_ct, kt_xc, kh_nx, kh_rt, un_n, un_s, isNon_1, isNon_2, isNon_3, isNon_4, isNon_5, isNon_6, isNon_7, boolQ_1, intQ_1, optQ_1, lstQ_1, sqQ_1, sqQ_2, insQ_1, getIx_0, getIx_1, getIx_2, getIx_3, getIx_4, getIx_5, setIx_0, setIx_1, setIx_2, bindQ_nm, bindL_0, bindL_1, bindQ_tp, z_var, z_con, z_glo, z_bin, z_neg, z_cmp, z_chain, z_isN, z_notN, z_and, z_or, z_not, z_ife, z_call, z_make, methQ_1, z_meth, z_fld, z_pr, z_me, z_isi, z_idx, z_sli, z_abs0, z_tup, z_lst, z_fstr, z_efld, z_eisi, z_comp, z_Tcmp, z_Tchain, z_TisN, z_TnotN, z_Tand, z_Tor, z_Tnot, z_Ttv, z_nil, z_cons, z_Fnil, z_Fcons, z_Tsn, z_Ts1, z_rng1, int2Q_1, z_rng2, z_enm, z_zip, z_sq, z_Bnil, z_Bcons, z_asg, z_asgt, z_asg2, z_setf, z_seti, augQ_1, augQ_2, z_augn, z_augf, z_exp, z_ret, z_retN, z_if, z_for, z_whl, z_brk, z_cnt, z_pas, z_rais0, z_rais1, z_try, z_Hnil, z_Hcons, v_v0, v_vs, v_add, v_sub, v_mul, v_fdiv, v_mod, v_pow, v_sadd, v_tadd, v_ladd, v_lmul, v_int, v_intb, v_abs, v_max2, v_min2, v_stri, v_lens, v_lent, v_lenr, v_tupt, v_tupr, v_lstt, v_lstr, v_any, v_all, v_ixt, v_ixr, v_seti, v_pts, v_ptn, v_sls, v_slt, v_slr, v_fld, v_setf, v_okl, v_oks, v_app, v_pop, v_lt, v_le, v_gt, v_ge, v_eq, v_ne, v_in, v_ni, v_eqii, v_eqss, v_eqbb, v_eqsi, v_eqis, v_eqni, v_eqin, v_eqns, v_eqsn, v_trn, v_trb, v_tri, v_trt, v_trr, v_trs, v_fms, v_fmi, v_inp, v_inl, v_ins, t_n, t_b, t_i, t_s, t_t, t_r, tyO_1, tyO_2, tyO_3, tyO_4, y_n, y_b, y_i, y_s, y_t, y_l, y_d, y_o, y_o1, y_o2, y_o3, y_o4, y_o5, y_o6, w_t, w_s, w_r, w_e, w_zt, List.map_cons, List.map_nil, List.replicate_succ, List.replicate_zero, List.cons_append, List.nil_append, List.append_nil, List.set_cons_zero, List.set_cons_succ, List.any_cons, List.any_nil, List.lookup_cons_self, meT, reduceCtorEq, decide_true, decide_false, Bool.or_false, Bool.false_or, Bool.or_true, Bool.true_or, Bool.not_true, Bool.not_false, Bool.and_true, Bool.true_and, Bool.and_false, Bool.false_and, true_and, and_true, wipeE, List.getElem?_concat_length]
      refine turn _ i s _ rfl e6.pool fun d s' r c => ?_
      simp (implicitDefEqProofs := false) (dsimp := false) (failIfUnchanged := false) only [lz1, z_ifT, z_ifF, ks_nx, ks_rt, ks_bk, ks_ct, ks_xc, kl_nx, kl_rt, kl_bk, kl_ct, kl_xc, kc_nx, kc_rt, kc_xc, kt_nx, kt_rt, kt_bk, kt_ct, kt_xc, kh_nx, kh_rt, un_n, un_s, isNon_1, isNon_2, isNon_3, isNon_4, isNon_5, isNon_6, isNon_7, boolQ_1, intQ_1, optQ_1, lstQ_1, sqQ_1, sqQ_2, insQ_1, getIx_0, getIx_1, getIx_2, getIx_3, getIx_4, getIx_5, setIx_0, setIx_1, setIx_2, bindQ_nm, bindL_0, bindL_1, bindQ_tp, z_var, z_con, z_glo, z_bin, z_neg, z_cmp, z_chain, z_isN, z_notN, z_and, z_or, z_not, z_ife, z_call, z_make, methQ_1, z_meth, z_fld, z_pr, z_me, z_isi, z_idx, z_sli, z_abs0, z_tup, z_lst, z_fstr, z_efld, z_eisi, z_comp, z_Tcmp, z_Tchain, z_TisN, z_TnotN, z_Tand, z_Tor, z_Tnot, z_Ttv, z_nil, z_cons, z_Fnil, z_Fcons, z_Tsn, z_Ts1, z_rng1, int2Q_1, z_rng2, z_enm, z_zip, z_sq, z_Bnil, z_Bcons, z_asg, z_asgt, z_asg2, z_setf, z_seti, augQ_1, augQ_2, z_augn, z_augf, z_exp, z_ret, z_retN, z_if, z_for, z_whl, z_brk, z_cnt, z_pas, z_rais0, z_rais1, z_try, z_Hnil, z_Hcons, v_v0, v_vs, v_add, v_sub, v_mul, v_fdiv, v_mod, v_pow, v_sadd, v_tadd, v_ladd, v_lmul, v_int, v_intb, v_abs, v_max2, v_min2, v_stri, v_lens, v_lent, v_lenr, v_tupt, v_tupr, v_lstt, v_lstr, v_any, v_all, v_ixt, v_ixr, v_seti, v_pts, v_ptn, v_sls, v_slt, v_slr, v_fld, v_setf, v_okl, v_oks, v_app, v_pop, v_lt, v_le, v_gt, v_ge, v_eq, v_ne, v_in, v_ni, v_eqii, v_eqss, v_eqbb, v_eqsi, v_eqis, v_eqni, v_eqin, v_eqns, v_eqsn, v_trn, v_trb, v_tri, v_trt, v_trr, v_trs, v_fms, v_fmi, v_inp, v_inl, v_ins, t_n, t_b, t_i, t_s, t_t, t_r, tyO_1, tyO_2, tyO_3, tyO_4, y_n, y_b, y_i, y_s, y_t, y_l, y_d, y_o, y_o1, y_o2, y_o3, y_o4, y_o5, y_o6, w_t, w_s, w_r, w_e, w_zt, List.map_cons, List.map_nil, List.replicate_succ, List.replicate_zero, List.cons_append, List.nil_append, List.append_nil, List.set_cons_zero, List.set_cons_succ, List.any_cons, List.any_nil, List.lookup_cons_self, meT, reduceCtorEq, decide_true, decide_false, Bool.or_false, Bool.false_or, Bool.or_true, Bool.true_or, Bool.not_true, Bool.not_false, Bool.and_true, Bool.true_and, Bool.and_false, Bool.false_and, true_and, and_true, wipeE, List.getElem?_concat_length, c.get e5 ne]
      refine ⟨lt_line (by omega), hN _ _ ⟨i + 1, m, by omega, rfl, by simp [e3], fun x hx => ?_, set_get (c.get e5 ne), (e6.trans c).set ne (Nat.le_refl _)⟩⟩
      rcases List.mem_append.mp hx with z | z
      · exact e4 x z
      · rw [List.mem_singleton.mp z]
        exact r
  · cases m with
    | succ m => rw [rg_succ] at e2; cases e2
    | zero => exact done acc s (by omega) e4 e5 e6
theorem rep_mem {α : Type} {xs : List α} {k : Nat} {d : α} (h : d ∈ (List.replicate k xs).flatten) : d ∈ xs := by
  rw [List.mem_flatten] at h
  obtain ⟨l, h1, h2⟩ := h
  rw [List.mem_replicate] at h1
  rw [← h1.2]
  exact h2
theorem rep_len {α : Type} {xs : List α} (k : Nat) : (List.replicate k xs).flatten.length = k * xs.length := by
  induction k with
  | zero => simp
  | succ k ih => rw [List.replicate_succ, List.flatten_cons, List.length_append, ih, Nat.succ_mul]; omega
theorem cut_1 {xs : List D} : ∀ d ∈ cutL xs none (some 1), d ∈ xs := fun d hd => List.mem_of_mem_drop (List.mem_of_mem_take hd)
theorem cut_2 {xs : List D} : ∀ d ∈ cutL xs (some 1) none, d ∈ xs := fun d hd => List.mem_of_mem_drop (List.mem_of_mem_take hd)
theorem cut_len {xs : List D} (lo hi : Option Int) : (cutL xs lo hi).length ≤ xs.length := by
  unfold cutL
  rw [List.length_take, List.length_drop]
  omega
theorem lawrow' {k r : Nat} {ds : List D} {st : Store} {Q : QE} {X : QX} (e : st[r]? = some (.lst ds)) (hp : ∀ d ∈ ds, IsCall d) (hl : ds.length ≤ 400) (hq : ∀ s, Keep st s → Q (.bl true) s) : Call T (k + 7) 24 [.ref r] st Q X := by
  obtain ⟨ps, rfl, h⟩ := row_of hp
  exact lawrow e h (by simpa using hl) hq
theorem lawweaving' {k r : Nat} {ds : List D} {st : Store} {Q : QE} {X : QX} (e : st[r]? = some (.lst ds)) (hp : ∀ d ∈ ds, IsItem d) (hl : ds.length ≤ 400) (hq : ∀ s, Keep st s → Q (.bl true) s) : Call T (k + 7) 25 [.ref r] st Q X := by
  obtain ⟨ps, rfl, h⟩ := weaving_of hp
  exact lawweaving e h (by simpa using hl) hq
theorem law {k : Nat} {ns : List Int} (hl : ns.length ≤ 63) : Call T (k + 9) 27 [.ref 0] (st0 ns) (fun d _ => d = .bl true) (fun _ _ => False) := by
  refine call_z f_law.fn rfl rfl ?_
  show wpB T (Call T (k + 8)) none b_law [some (.ref 0), none, none, none, none, none, none, none, none] (st0 ns) _
  unfold b_law
  simp (implicitDefEqProofs := false) (dsimp := false) (failIfUnchanged := false) only [lz1, z_ifT, z_ifF, ks_nx, ks_rt, ks_bk, ks_ct, ks_xc, kl_nx, kl_rt, kl_bk, kl_ct, kl_xc, kc_nx, kc_rt, kc_xc, kt_nx, kt_rt, kt_bk, kt_ct, kt_xc, kh_nx, kh_rt, un_n, un_s, isNon_1, isNon_2, isNon_3, isNon_4, isNon_5, isNon_6, isNon_7, boolQ_1, intQ_1, optQ_1, lstQ_1, sqQ_1, sqQ_2, insQ_1, getIx_0, getIx_1, getIx_2, getIx_3, getIx_4, getIx_5, setIx_0, setIx_1, setIx_2, bindQ_nm, bindL_0, bindL_1, bindQ_tp, z_var, z_con, z_glo, z_bin, z_neg, z_cmp, z_chain, z_isN, z_notN, z_and, z_or, z_not, z_ife, z_call, z_make, methQ_1, z_meth, z_fld, z_pr, z_me, z_isi, z_idx, z_sli, z_abs0, z_tup, z_lst, z_fstr, z_efld, z_eisi, z_comp, z_Tcmp, z_Tchain, z_TisN, z_TnotN, z_Tand, z_Tor, z_Tnot, z_Ttv, z_nil, z_cons, z_Fnil, z_Fcons, z_Tsn, z_Ts1, z_rng1, int2Q_1, z_rng2, z_enm, z_zip, z_sq, z_Bnil, z_Bcons, z_asg, z_asgt, z_asg2, z_setf, z_seti, augQ_1, augQ_2, z_augn, z_augf, z_exp, z_ret, z_retN, z_if, z_for, z_whl, z_brk, z_cnt, z_pas, z_rais0, z_rais1, z_try, z_Hnil, z_Hcons, v_v0, v_vs, v_add, v_sub, v_mul, v_fdiv, v_mod, v_pow, v_sadd, v_tadd, v_ladd, v_lmul, v_int, v_intb, v_abs, v_max2, v_min2, v_stri, v_lens, v_lent, v_lenr, v_tupt, v_tupr, v_lstt, v_lstr, v_any, v_all, v_ixt, v_ixr, v_seti, v_pts, v_ptn, v_sls, v_slt, v_slr, v_fld, v_setf, v_okl, v_oks, v_app, v_pop, v_lt, v_le, v_gt, v_ge, v_eq, v_ne, v_in, v_ni, v_eqii, v_eqss, v_eqbb, v_eqsi, v_eqis, v_eqni, v_eqin, v_eqns, v_eqsn, v_trn, v_trb, v_tri, v_trt, v_trr, v_trs, v_fms, v_fmi, v_inp, v_inl, v_ins, t_n, t_b, t_i, t_s, t_t, t_r, tyO_1, tyO_2, tyO_3, tyO_4, y_n, y_b, y_i, y_s, y_t, y_l, y_d, y_o, y_o1, y_o2, y_o3, y_o4, y_o5, y_o6, w_t, w_s, w_r, w_e, w_zt, List.map_cons, List.map_nil, List.replicate_succ, List.replicate_zero, List.cons_append, List.nil_append, List.append_nil, List.set_cons_zero, List.set_cons_succ, List.any_cons, List.any_nil, List.lookup_cons_self, meT, reduceCtorEq, decide_true, decide_false, Bool.or_false, Bool.false_or, Bool.or_true, Bool.true_or, Bool.not_true, Bool.not_false, Bool.and_true, Bool.true_and, Bool.and_false, Bool.false_and, true_and, and_true, wipeE, List.getElem?_concat_length]
  refine pool (st := st0 ns) rfl hl (by decide) fun o1 p1 => ?_
  have s0 : (st0 ns ++ [o1])[0]? = some (.fro (ns.map D.int)) := rfl
  generalize st0 ns ++ [o1] = st1 at p1 s0 ⊢
  rw [show (st0 ns).length = 1 from rfl] at p1 ⊢
  simp (implicitDefEqProofs := false) (dsimp := false) (failIfUnchanged := false) only [lz1, z_ifT, z_ifF, ks_nx, ks_rt, ks_bk, ks_ct, ks_xc, kl_nx, kl_rt, kl_bk, kl_ct, kl_xc, kc_nx, kc_rt, kc_xc, kt_nx, kt_rt, kt_bk, kt_ct, kt_xc, kh_nx, kh_rt, un_n, un_s, isNon_1, isNon_2, isNon_3, isNon_4, isNon_5, isNon_6, isNon_7, boolQ_1, intQ_1, optQ_1, lstQ_1, sqQ_1, sqQ_2, insQ_1, getIx_0, getIx_1, getIx_2, getIx_3, getIx_4, getIx_5, setIx_0, setIx_1, setIx_2, bindQ_nm, bindL_0, bindL_1, bindQ_tp, z_var, z_con, z_glo, z_bin, z_neg, z_cmp, z_chain, z_isN, z_notN, z_and, z_or, z_not, z_ife, z_call, z_make, methQ_1, z_meth, z_fld, z_pr, z_me, z_isi, z_idx, z_sli, z_abs0, z_tup, z_lst, z_fstr, z_efld, z_eisi, z_comp, z_Tcmp, z_Tchain, z_TisN, z_TnotN, z_Tand, z_Tor, z_Tnot, z_Ttv, z_nil, z_cons, z_Fnil, z_Fcons, z_Tsn, z_Ts1, z_rng1, int2Q_1, z_rng2, z_enm, z_zip, z_sq, z_Bnil, z_Bcons, z_asg, z_asgt, z_asg2, z_setf, z_seti, augQ_1, augQ_2, z_augn, z_augf, z_exp, z_ret, z_retN, z_if, z_for, z_whl, z_brk, z_cnt, z_pas, z_rais0, z_rais1, z_try, z_Hnil, z_Hcons, v_v0, v_vs, v_add, v_sub, v_mul, v_fdiv, v_mod, v_pow, v_sadd, v_tadd, v_ladd, v_lmul, v_int, v_intb, v_abs, v_max2, v_min2, v_stri, v_lens, v_lent, v_lenr, v_tupt, v_tupr, v_lstt, v_lstr, v_any, v_all, v_ixt, v_ixr, v_seti, v_pts, v_ptn, v_sls, v_slt, v_slr, v_fld, v_setf, v_okl, v_oks, v_app, v_pop, v_lt, v_le, v_gt, v_ge, v_eq, v_ne, v_in, v_ni, v_eqii, v_eqss, v_eqbb, v_eqsi, v_eqis, v_eqni, v_eqin, v_eqns, v_eqsn, v_trn, v_trb, v_tri, v_trt, v_trr, v_trs, v_fms, v_fmi, v_inp, v_inl, v_ins, t_n, t_b, t_i, t_s, t_t, t_r, tyO_1, tyO_2, tyO_3, tyO_4, y_n, y_b, y_i, y_s, y_t, y_l, y_d, y_o, y_o1, y_o2, y_o3, y_o4, y_o5, y_o6, w_t, w_s, w_r, w_e, w_zt, List.map_cons, List.map_nil, List.replicate_succ, List.replicate_zero, List.cons_append, List.nil_append, List.append_nil, List.set_cons_zero, List.set_cons_succ, List.any_cons, List.any_nil, List.lookup_cons_self, meT, reduceCtorEq, decide_true, decide_false, Bool.or_false, Bool.false_or, Bool.or_true, Bool.true_or, Bool.not_true, Bool.not_false, Bool.and_true, Bool.true_and, Bool.and_false, Bool.false_and, true_and, and_true, wipeE, List.getElem?_concat_length]
  refine draw (by decide) (by decide) p1 fun v st2 v0 v1 _ c2 => ?_
  have s2 := c2.get s0 (by decide)
  have p2 := c2.pool
  clear p1 s0 c2
  refine ifd (fun _ => ?_) (fun _ => ?_)
  all_goals
    simp (implicitDefEqProofs := false) (dsimp := false) (failIfUnchanged := false) only [lz1, z_ifT, z_ifF, ks_nx, ks_rt, ks_bk, ks_ct, ks_xc, kl_nx, kl_rt, kl_bk, kl_ct, kl_xc, kc_nx, kc_rt, kc_xc, kt_nx, kt_rt, kt_bk, kt_ct, kt_xc, kh_nx, kh_rt, un_n, un_s, isNon_1, isNon_2, isNon_3, isNon_4, isNon_5, isNon_6, isNon_7, boolQ_1, intQ_1, optQ_1, lstQ_1, sqQ_1, sqQ_2, insQ_1, getIx_0, getIx_1, getIx_2, getIx_3, getIx_4, getIx_5, setIx_0, setIx_1, setIx_2, bindQ_nm, bindL_0, bindL_1, bindQ_tp, z_var, z_con, z_glo, z_bin, z_neg, z_cmp, z_chain, z_isN, z_notN, z_and, z_or, z_not, z_ife, z_call, z_make, methQ_1, z_meth, z_fld, z_pr, z_me, z_isi, z_idx, z_sli, z_abs0, z_tup, z_lst, z_fstr, z_efld, z_eisi, z_comp, z_Tcmp, z_Tchain, z_TisN, z_TnotN, z_Tand, z_Tor, z_Tnot, z_Ttv, z_nil, z_cons, z_Fnil, z_Fcons, z_Tsn, z_Ts1, z_rng1, int2Q_1, z_rng2, z_enm, z_zip, z_sq, z_Bnil, z_Bcons, z_asg, z_asgt, z_asg2, z_setf, z_seti, augQ_1, augQ_2, z_augn, z_augf, z_exp, z_ret, z_retN, z_if, z_for, z_whl, z_brk, z_cnt, z_pas, z_rais0, z_rais1, z_try, z_Hnil, z_Hcons, v_v0, v_vs, v_add, v_sub, v_mul, v_fdiv, v_mod, v_pow, v_sadd, v_tadd, v_ladd, v_lmul, v_int, v_intb, v_abs, v_max2, v_min2, v_stri, v_lens, v_lent, v_lenr, v_tupt, v_tupr, v_lstt, v_lstr, v_any, v_all, v_ixt, v_ixr, v_seti, v_pts, v_ptn, v_sls, v_slt, v_slr, v_fld, v_setf, v_okl, v_oks, v_app, v_pop, v_lt, v_le, v_gt, v_ge, v_eq, v_ne, v_in, v_ni, v_eqii, v_eqss, v_eqbb, v_eqsi, v_eqis, v_eqni, v_eqin, v_eqns, v_eqsn, v_trn, v_trb, v_tri, v_trt, v_trr, v_trs, v_fms, v_fmi, v_inp, v_inl, v_ins, t_n, t_b, t_i, t_s, t_t, t_r, tyO_1, tyO_2, tyO_3, tyO_4, y_n, y_b, y_i, y_s, y_t, y_l, y_d, y_o, y_o1, y_o2, y_o3, y_o4, y_o5, y_o6, w_t, w_s, w_r, w_e, w_zt, List.map_cons, List.map_nil, List.replicate_succ, List.replicate_zero, List.cons_append, List.nil_append, List.append_nil, List.set_cons_zero, List.set_cons_succ, List.any_cons, List.any_nil, List.lookup_cons_self, meT, reduceCtorEq, decide_true, decide_false, Bool.or_false, Bool.false_or, Bool.or_true, Bool.true_or, Bool.not_true, Bool.not_false, Bool.and_true, Bool.true_and, Bool.and_false, Bool.false_and, true_and, and_true, wipeE, List.getElem?_concat_length]
    refine draw (by decide) (by decide) p2 fun v st3 v0 v1 l3 c3 => ?_
    have s3 := c3.get s2 (by decide)
    have p3 := c3.pool
    clear c3 s2 p2
    simp (implicitDefEqProofs := false) (dsimp := false) (failIfUnchanged := false) only [lz1, z_ifT, z_ifF, ks_nx, ks_rt, ks_bk, ks_ct, ks_xc, kl_nx, kl_rt, kl_bk, kl_ct, kl_xc, kc_nx, kc_rt, kc_xc, kt_nx, kt_rt, kt_bk, kt_ct, kt_xc, kh_nx, kh_rt, un_n, un_s, isNon_1, isNon_2, isNon_3, isNon_4, isNon_5, isNon_6, isNon_7, boolQ_1, intQ_1, optQ_1, lstQ_1, sqQ_1, sqQ_2, insQ_1, getIx_0, getIx_1, getIx_2, getIx_3, getIx_4, getIx_5, setIx_0, setIx_1, setIx_2, bindQ_nm, bindL_0, bindL_1, bindQ_tp, z_var, z_con, z_glo, z_bin, z_neg, z_cmp, z_chain, z_isN, z_notN, z_and, z_or, z_not, z_ife, z_call, z_make, methQ_1, z_meth, z_fld, z_pr, z_me, z_isi, z_idx, z_sli, z_abs0, z_tup, z_lst, z_fstr, z_efld, z_eisi, z_comp, z_Tcmp, z_Tchain, z_TisN, z_TnotN, z_Tand, z_Tor, z_Tnot, z_Ttv, z_nil, z_cons, z_Fnil, z_Fcons, z_Tsn, z_Ts1, z_rng1, int2Q_1, z_rng2, z_enm, z_zip, z_sq, z_Bnil, z_Bcons, z_asg, z_asgt, z_asg2, z_setf, z_seti, augQ_1, augQ_2, z_augn, z_augf, z_exp, z_ret, z_retN, z_if, z_for, z_whl, z_brk, z_cnt, z_pas, z_rais0, z_rais1, z_try, z_Hnil, z_Hcons, v_v0, v_vs, v_add, v_sub, v_mul, v_fdiv, v_mod, v_pow, v_sadd, v_tadd, v_ladd, v_lmul, v_int, v_intb, v_abs, v_max2, v_min2, v_stri, v_lens, v_lent, v_lenr, v_tupt, v_tupr, v_lstt, v_lstr, v_any, v_all, v_ixt, v_ixr, v_seti, v_pts, v_ptn, v_sls, v_slt, v_slr, v_fld, v_setf, v_okl, v_oks, v_app, v_pop, v_lt, v_le, v_gt, v_ge, v_eq, v_ne, v_in, v_ni, v_eqii, v_eqss, v_eqbb, v_eqsi, v_eqis, v_eqni, v_eqin, v_eqns, v_eqsn, v_trn, v_trb, v_tri, v_trt, v_trr, v_trs, v_fms, v_fmi, v_inp, v_inl, v_ins, t_n, t_b, t_i, t_s, t_t, t_r, tyO_1, tyO_2, tyO_3, tyO_4, y_n, y_b, y_i, y_s, y_t, y_l, y_d, y_o, y_o1, y_o2, y_o3, y_o4, y_o5, y_o6, w_t, w_s, w_r, w_e, w_zt, List.map_cons, List.map_nil, List.replicate_succ, List.replicate_zero, List.cons_append, List.nil_append, List.append_nil, List.set_cons_zero, List.set_cons_succ, List.any_cons, List.any_nil, List.lookup_cons_self, meT, reduceCtorEq, decide_true, decide_false, Bool.or_false, Bool.false_or, Bool.or_true, Bool.true_or, Bool.not_true, Bool.not_false, Bool.and_true, Bool.true_and, Bool.and_false, Bool.false_and, true_and, and_true, wipeE, List.getElem?_concat_length]
    refine ⟨by omega, by omega, ?_⟩
    refine gen (fun d => ∃ n : Int, d = .int n ∧ 0 ≤ n ∧ n < 9) (by omega) p3 (fun e s P h => ?_) (fun e i s Q' he ps hQ => ?_) (fun es s4 el em eg c4 => ?_)
    · simp (implicitDefEqProofs := false) (dsimp := false) (failIfUnchanged := false) only [lz1, z_ifT, z_ifF, ks_nx, ks_rt, ks_bk, ks_ct, ks_xc, kl_nx, kl_rt, kl_bk, kl_ct, kl_xc, kc_nx, kc_rt, kc_xc, kt_nx, kt_rt, kt_bk, kt_ct, kt_xc, kh_nx, kh_rt, un_n, un_s, isNon_1, isNon_2, isNon_3, isNon_4, isNon_5, isNon_6, isNon_7, boolQ_1, intQ_1, optQ_1, lstQ_1, sqQ_1, sqQ_2, insQ_1, getIx_0, getIx_1, getIx_2, getIx_3, getIx_4, getIx_5, setIx_0, setIx_1, setIx_2, bindQ_nm, bindL_0, bindL_1, bindQ_tp, z_var, z_con, z_glo, z_bin, z_neg, z_cmp, z_chain, z_isN, z_notN, z_and, z_or, z_not, z_ife, z_call, z_make, methQ_1, z_meth, z_fld, z_pr, z_me, z_isi, z_idx, z_sli, z_abs0, z_tup, z_lst, z_fstr, z_efld, z_eisi, z_comp, z_Tcmp, z_Tchain, z_TisN, z_TnotN, z_Tand, z_Tor, z_Tnot, z_Ttv, z_nil, z_cons, z_Fnil, z_Fcons, z_Tsn, z_Ts1, z_rng1, int2Q_1, z_rng2, z_enm, z_zip, z_sq, z_Bnil, z_Bcons, z_asg, z_asgt, z_asg2, z_setf, z_seti, augQ_1, augQ_2, z_augn, z_augf, z_exp, z_ret, z_retN, z_if, z_for, z_whl, z_brk, z_cnt, z_pas, z_rais0, z_rais1, z_try, z_Hnil, z_Hcons, v_v0, v_vs, v_add, v_sub, v_mul, v_fdiv, v_mod, v_pow, v_sadd, v_tadd, v_ladd, v_lmul, v_int, v_intb, v_abs, v_max2, v_min2, v_stri, v_lens, v_lent, v_lenr, v_tupt, v_tupr, v_lstt, v_lstr, v_any, v_all, v_ixt, v_ixr, v_seti, v_pts, v_ptn, v_sls, v_slt, v_slr, v_fld, v_setf, v_okl, v_oks, v_app, v_pop, v_lt, v_le, v_gt, v_ge, v_eq, v_ne, v_in, v_ni, v_eqii, v_eqss, v_eqbb, v_eqsi, v_eqis, v_eqni, v_eqin, v_eqns, v_eqsn, v_trn, v_trb, v_tri, v_trt, v_trr, v_trs, v_fms, v_fmi, v_inp, v_inl, v_ins, t_n, t_b, t_i, t_s, t_t, t_r, tyO_1, tyO_2, tyO_3, tyO_4, y_n, y_b, y_i, y_s, y_t, y_l, y_d, y_o, y_o1, y_o2, y_o3, y_o4, y_o5, y_o6, w_t, w_s, w_r, w_e, w_zt, List.map_cons, List.map_nil, List.replicate_succ, List.replicate_zero, List.cons_append, List.nil_append, List.append_nil, List.set_cons_zero, List.set_cons_succ, List.any_cons, List.any_nil, List.lookup_cons_self, meT, reduceCtorEq, decide_true, decide_false, Bool.or_false, Bool.false_or, Bool.or_true, Bool.true_or, Bool.not_true, Bool.not_false, Bool.and_true, Bool.true_and, Bool.and_false, Bool.false_and, true_and, and_true, wipeE, List.getElem?_concat_length]
      exact h
    · subst he
      simp (implicitDefEqProofs := false) (dsimp := false) (failIfUnchanged := false) only [lz1, z_ifT, z_ifF, ks_nx, ks_rt, ks_bk, ks_ct, ks_xc, kl_nx, kl_rt, kl_bk, kl_ct, kl_xc, kc_nx, kc_rt, kc_xc, kt_nx, kt_rt, kt_bk, kt_ct, kt_xc, kh_nx, kh_rt, un_n, un_s, isNon_1, isNon_2, isNon_3, isNon_4, isNon_5, isNon_6, isNon_7, boolQ_1, intQ_1, optQ_1, lstQ_1, sqQ_1, sqQ_2, insQ_1, getIx_0, getIx_1, getIx_2, getIx_3, getIx_4, getIx_5, setIx_0, setIx_1, setIx_2, bindQ_nm, bindL_0, bindL_1, bindQ_tp, z_var, z_con, z_glo, z_bin, z_neg, z_cmp, z_chain, z_isN, z_notN, z_and, z_or, z_not, z_ife, z_call, z_make, methQ_1, z_meth, z_fld, z_pr, z_me, z_isi, z_idx, z_sli, z_abs0, z_tup, z_lst, z_fstr, z_efld, z_eisi, z_comp, z_Tcmp, z_Tchain, z_TisN, z_TnotN, z_Tand, z_Tor, z_Tnot, z_Ttv, z_nil, z_cons, z_Fnil, z_Fcons, z_Tsn, z_Ts1, z_rng1, int2Q_1, z_rng2, z_enm, z_zip, z_sq, z_Bnil, z_Bcons, z_asg, z_asgt, z_asg2, z_setf, z_seti, augQ_1, augQ_2, z_augn, z_augf, z_exp, z_ret, z_retN, z_if, z_for, z_whl, z_brk, z_cnt, z_pas, z_rais0, z_rais1, z_try, z_Hnil, z_Hcons, v_v0, v_vs, v_add, v_sub, v_mul, v_fdiv, v_mod, v_pow, v_sadd, v_tadd, v_ladd, v_lmul, v_int, v_intb, v_abs, v_max2, v_min2, v_stri, v_lens, v_lent, v_lenr, v_tupt, v_tupr, v_lstt, v_lstr, v_any, v_all, v_ixt, v_ixr, v_seti, v_pts, v_ptn, v_sls, v_slt, v_slr, v_fld, v_setf, v_okl, v_oks, v_app, v_pop, v_lt, v_le, v_gt, v_ge, v_eq, v_ne, v_in, v_ni, v_eqii, v_eqss, v_eqbb, v_eqsi, v_eqis, v_eqni, v_eqin, v_eqns, v_eqsn, v_trn, v_trb, v_tri, v_trt, v_trr, v_trs, v_fms, v_fmi, v_inp, v_inl, v_ins, t_n, t_b, t_i, t_s, t_t, t_r, tyO_1, tyO_2, tyO_3, tyO_4, y_n, y_b, y_i, y_s, y_t, y_l, y_d, y_o, y_o1, y_o2, y_o3, y_o4, y_o5, y_o6, w_t, w_s, w_r, w_e, w_zt, List.map_cons, List.map_nil, List.replicate_succ, List.replicate_zero, List.cons_append, List.nil_append, List.append_nil, List.set_cons_zero, List.set_cons_succ, List.any_cons, List.any_nil, List.lookup_cons_self, meT, reduceCtorEq, decide_true, decide_false, Bool.or_false, Bool.false_or, Bool.or_true, Bool.true_or, Bool.not_true, Bool.not_false, Bool.and_true, Bool.true_and, Bool.and_false, Bool.false_and, true_and, and_true, wipeE, List.getElem?_concat_length]
      refine draw (by decide) (by decide) ps fun v st' v0 v1 l' c' => ?_
      exact hQ _ _ ⟨v, rfl, v0, v1⟩ c'
    obtain ⟨vs, rfl, hvs⟩ := ints_of em
    rw [List.length_map] at el
    simp (implicitDefEqProofs := false) (dsimp := false) (failIfUnchanged := false) only [lz1, z_ifT, z_ifF, ks_nx, ks_rt, ks_bk, ks_ct, ks_xc, kl_nx, kl_rt, kl_bk, kl_ct, kl_xc, kc_nx, kc_rt, kc_xc, kt_nx, kt_rt, kt_bk, kt_ct, kt_xc, kh_nx, kh_rt, un_n, un_s, isNon_1, isNon_2, isNon_3, isNon_4, isNon_5, isNon_6, isNon_7, boolQ_1, intQ_1, optQ_1, lstQ_1, sqQ_1, sqQ_2, insQ_1, getIx_0, getIx_1, getIx_2, getIx_3, getIx_4, getIx_5, setIx_0, setIx_1, setIx_2, bindQ_nm, bindL_0, bindL_1, bindQ_tp, z_var, z_con, z_glo, z_bin, z_neg, z_cmp, z_chain, z_isN, z_notN, z_and, z_or, z_not, z_ife, z_call, z_make, methQ_1, z_meth, z_fld, z_pr, z_me, z_isi, z_idx, z_sli, z_abs0, z_tup, z_lst, z_fstr, z_efld, z_eisi, z_comp, z_Tcmp, z_Tchain, z_TisN, z_TnotN, z_Tand, z_Tor, z_Tnot, z_Ttv, z_nil, z_cons, z_Fnil, z_Fcons, z_Tsn, z_Ts1, z_rng1, int2Q_1, z_rng2, z_enm, z_zip, z_sq, z_Bnil, z_Bcons, z_asg, z_asgt, z_asg2, z_setf, z_seti, augQ_1, augQ_2, z_augn, z_augf, z_exp, z_ret, z_retN, z_if, z_for, z_whl, z_brk, z_cnt, z_pas, z_rais0, z_rais1, z_try, z_Hnil, z_Hcons, v_v0, v_vs, v_add, v_sub, v_mul, v_fdiv, v_mod, v_pow, v_sadd, v_tadd, v_ladd, v_lmul, v_int, v_intb, v_abs, v_max2, v_min2, v_stri, v_lens, v_lent, v_lenr, v_tupt, v_tupr, v_lstt, v_lstr, v_any, v_all, v_ixt, v_ixr, v_seti, v_pts, v_ptn, v_sls, v_slt, v_slr, v_fld, v_setf, v_okl, v_oks, v_app, v_pop, v_lt, v_le, v_gt, v_ge, v_eq, v_ne, v_in, v_ni, v_eqii, v_eqss, v_eqbb, v_eqsi, v_eqis, v_eqni, v_eqin, v_eqns, v_eqsn, v_trn, v_trb, v_tri, v_trt, v_trr, v_trs, v_fms, v_fmi, v_inp, v_inl, v_ins, t_n, t_b, t_i, t_s, t_t, t_r, tyO_1, tyO_2, tyO_3, tyO_4, y_n, y_b, y_i, y_s, y_t, y_l, y_d, y_o, y_o1, y_o2, y_o3, y_o4, y_o5, y_o6, w_t, w_s, w_r, w_e, w_zt, List.map_cons, List.map_nil, List.replicate_succ, List.replicate_zero, List.cons_append, List.nil_append, List.append_nil, List.set_cons_zero, List.set_cons_succ, List.any_cons, List.any_nil, List.lookup_cons_self, meT, reduceCtorEq, decide_true, decide_false, Bool.or_false, Bool.false_or, Bool.or_true, Bool.true_or, Bool.not_true, Bool.not_false, Bool.and_true, Bool.true_and, Bool.and_false, Bool.false_and, true_and, and_true, wipeE, List.getElem?_concat_length, eg]
    have s4_ := c4.get s3 (by decide)
    clear c4 s3 p3 eg
    generalize hp5 : s4.length = h5
    refine pool s4_ hl (by decide) fun o5 p5 => ?_
    have s5 := get_app [o5] s4_
    generalize s4 ++ [o5] = st5 at s5 p5 ⊢
    rw [hp5] at p5 ⊢
    have z5 : h5 ≠ 0 := by have := lt_of_get s4_; omega
    simp (implicitDefEqProofs := false) (dsimp := false) (failIfUnchanged := false) only [lz1, z_ifT, z_ifF, ks_nx, ks_rt, ks_bk, ks_ct, ks_xc, kl_nx, kl_rt, kl_bk, kl_ct, kl_xc, kc_nx, kc_rt, kc_xc, kt_nx, kt_rt, kt_bk, kt_ct, kt_xc, kh_nx, kh_rt, un_n, un_s, isNon_1, isNon_2, isNon_3, isNon_4, isNon_5, isNon_6, isNon_7, boolQ_1, intQ_1, optQ_1, lstQ_1, sqQ_1, sqQ_2, insQ_1, getIx_0, getIx_1, getIx_2, getIx_3, getIx_4, getIx_5, setIx_0, setIx_1, setIx_2, bindQ_nm, bindL_0, bindL_1, bindQ_tp, z_var, z_con, z_glo, z_bin, z_neg, z_cmp, z_chain, z_isN, z_notN, z_and, z_or, z_not, z_ife, z_call, z_make, methQ_1, z_meth, z_fld, z_pr, z_me, z_isi, z_idx, z_sli, z_abs0, z_tup, z_lst, z_fstr, z_efld, z_eisi, z_comp, z_Tcmp, z_Tchain, z_TisN, z_TnotN, z_Tand, z_Tor, z_Tnot, z_Ttv, z_nil, z_cons, z_Fnil, z_Fcons, z_Tsn, z_Ts1, z_rng1, int2Q_1, z_rng2, z_enm, z_zip, z_sq, z_Bnil, z_Bcons, z_asg, z_asgt, z_asg2, z_setf, z_seti, augQ_1, augQ_2, z_augn, z_augf, z_exp, z_ret, z_retN, z_if, z_for, z_whl, z_brk, z_cnt, z_pas, z_rais0, z_rais1, z_try, z_Hnil, z_Hcons, v_v0, v_vs, v_add, v_sub, v_mul, v_fdiv, v_mod, v_pow, v_sadd, v_tadd, v_ladd, v_lmul, v_int, v_intb, v_abs, v_max2, v_min2, v_stri, v_lens, v_lent, v_lenr, v_tupt, v_tupr, v_lstt, v_lstr, v_any, v_all, v_ixt, v_ixr, v_seti, v_pts, v_ptn, v_sls, v_slt, v_slr, v_fld, v_setf, v_okl, v_oks, v_app, v_pop, v_lt, v_le, v_gt, v_ge, v_eq, v_ne, v_in, v_ni, v_eqii, v_eqss, v_eqbb, v_eqsi, v_eqis, v_eqni, v_eqin, v_eqns, v_eqsn, v_trn, v_trb, v_tri, v_trt, v_trr, v_trs, v_fms, v_fmi, v_inp, v_inl, v_ins, t_n, t_b, t_i, t_s, t_t, t_r, tyO_1, tyO_2, tyO_3, tyO_4, y_n, y_b, y_i, y_s, y_t, y_l, y_d, y_o, y_o1, y_o2, y_o3, y_o4, y_o5, y_o6, w_t, w_s, w_r, w_e, w_zt, List.map_cons, List.map_nil, List.replicate_succ, List.replicate_zero, List.cons_append, List.nil_append, List.append_nil, List.set_cons_zero, List.set_cons_succ, List.any_cons, List.any_nil, List.lookup_cons_self, meT, reduceCtorEq, decide_true, decide_false, Bool.or_false, Bool.false_or, Bool.or_true, Bool.true_or, Bool.not_true, Bool.not_false, Bool.and_true, Bool.true_and, Bool.and_false, Bool.false_and, true_and, and_true, wipeE, List.getElem?_concat_length]
    generalize hp6 : st5.length = h6
    refine pool s5 hl (by decide) fun o6 p6 => ?_
    have p56 : Pool h5 (st5 ++ [o6]) := p5.app
    have n56 : h5 ≠ h6 := by have := p5.lt; omega
    rw [hp6] at p6 ⊢
    have s6 := get_app [o6] s5
    generalize st5 ++ [o6] = st6 at s6 p6 p56 ⊢
    clear s5 p5
    simp (implicitDefEqProofs := false) (dsimp := false) (failIfUnchanged := false) only [lz1, z_ifT, z_ifF, ks_nx, ks_rt, ks_bk, ks_ct, ks_xc, kl_nx, kl_rt, kl_bk, kl_ct, kl_xc, kc_nx, kc_rt, kc_xc, kt_nx, kt_rt, kt_bk, kt_ct, kt_xc, kh_nx, kh_rt, un_n, un_s, isNon_1, isNon_2, isNon_3, isNon_4, isNon_5, isNon_6, isNon_7, boolQ_1, intQ_1, optQ_1, lstQ_1, sqQ_1, sqQ_2, insQ_1, getIx_0, getIx_1, getIx_2, getIx_3, getIx_4, getIx_5, setIx_0, setIx_1, setIx_2, bindQ_nm, bindL_0, bindL_1, bindQ_tp, z_var, z_con, z_glo, z_bin, z_neg, z_cmp, z_chain, z_isN, z_notN, z_and, z_or, z_not, z_ife, z_call, z_make, methQ_1, z_meth, z_fld, z_pr, z_me, z_isi, z_idx, z_sli, z_abs0, z_tup, z_lst, z_fstr, z_efld, z_eisi, z_comp, z_Tcmp, z_Tchain, z_TisN, z_TnotN, z_Tand, z_Tor, z_Tnot, z_Ttv, z_nil, z_cons, z_Fnil, z_Fcons, z_Tsn, z_Ts1, z_rng1, int2Q_1, z_rng2, z_enm, z_zip, z_sq, z_Bnil, z_Bcons, z_asg, z_asgt, z_asg2, z_setf, z_seti, augQ_1, augQ_2, z_augn, z_augf, z_exp, z_ret, z_retN, z_if, z_for, z_whl, z_brk, z_cnt, z_pas, z_rais0, z_rais1, z_try, z_Hnil, z_Hcons, v_v0, v_vs, v_add, v_sub, v_mul, v_fdiv, v_mod, v_pow, v_sadd, v_tadd, v_ladd, v_lmul, v_int, v_intb, v_abs, v_max2, v_min2, v_stri, v_lens, v_lent, v_lenr, v_tupt, v_tupr, v_lstt, v_lstr, v_any, v_all, v_ixt, v_ixr, v_seti, v_pts, v_ptn, v_sls, v_slt, v_slr, v_fld, v_setf, v_okl, v_oks, v_app, v_pop, v_lt, v_le, v_gt, v_ge, v_eq, v_ne, v_in, v_ni, v_eqii, v_eqss, v_eqbb, v_eqsi, v_eqis, v_eqni, v_eqin, v_eqns, v_eqsn, v_trn, v_trb, v_tri, v_trt, v_trr, v_trs, v_fms, v_fmi, v_inp, v_inl, v_ins, t_n, t_b, t_i, t_s, t_t, t_r, tyO_1, tyO_2, tyO_3, tyO_4, y_n, y_b, y_i, y_s, y_t, y_l, y_d, y_o, y_o1, y_o2, y_o3, y_o4, y_o5, y_o6, w_t, w_s, w_r, w_e, w_zt, List.map_cons, List.map_nil, List.replicate_succ, List.replicate_zero, List.cons_append, List.nil_append, List.append_nil, List.set_cons_zero, List.set_cons_succ, List.any_cons, List.any_nil, List.lookup_cons_self, meT, reduceCtorEq, decide_true, decide_false, Bool.or_false, Bool.false_or, Bool.or_true, Bool.true_or, Bool.not_true, Bool.not_false, Bool.and_true, Bool.true_and, Bool.and_false, Bool.false_and, true_and, and_true, wipeE, List.getElem?_concat_length]
    refine draw (by decide) (by decide) p56 fun v7 st7 v70 v71 l7 c7 => ?_
    have p57 := c7.pool
    have p67 := c7.pool2 p6 (Ne.symm n56)
    clear p56 p6 c7
    simp (implicitDefEqProofs := false) (dsimp := false) (failIfUnchanged := false) only [lz1, z_ifT, z_ifF, ks_nx, ks_rt, ks_bk, ks_ct, ks_xc, kl_nx, kl_rt, kl_bk, kl_ct, kl_xc, kc_nx, kc_rt, kc_xc, kt_nx, kt_rt, kt_bk, kt_ct, kt_xc, kh_nx, kh_rt, un_n, un_s, isNon_1, isNon_2, isNon_3, isNon_4, isNon_5, isNon_6, isNon_7, boolQ_1, intQ_1, optQ_1, lstQ_1, sqQ_1, sqQ_2, insQ_1, getIx_0, getIx_1, getIx_2, getIx_3, getIx_4, getIx_5, setIx_0, setIx_1, setIx_2, bindQ_nm, bindL_0, bindL_1, bindQ_tp, z_var, z_con, z_glo, z_bin, z_neg, z_cmp, z_chain, z_isN, z_notN, z_and, z_or, z_not, z_ife, z_call, z_make, methQ_1, z_meth, z_fld, z_pr, z_me, z_isi, z_idx, z_sli, z_abs0, z_tup, z_lst, z_fstr, z_efld, z_eisi, z_comp, z_Tcmp, z_Tchain, z_TisN, z_TnotN, z_Tand, z_Tor, z_Tnot, z_Ttv, z_nil, z_cons, z_Fnil, z_Fcons, z_Tsn, z_Ts1, z_rng1, int2Q_1, z_rng2, z_enm, z_zip, z_sq, z_Bnil, z_Bcons, z_asg, z_asgt, z_asg2, z_setf, z_seti, augQ_1, augQ_2, z_augn, z_augf, z_exp, z_ret, z_retN, z_if, z_for, z_whl, z_brk, z_cnt, z_pas, z_rais0, z_rais1, z_try, z_Hnil, z_Hcons, v_v0, v_vs, v_add, v_sub, v_mul, v_fdiv, v_mod, v_pow, v_sadd, v_tadd, v_ladd, v_lmul, v_int, v_intb, v_abs, v_max2, v_min2, v_stri, v_lens, v_lent, v_lenr, v_tupt, v_tupr, v_lstt, v_lstr, v_any, v_all, v_ixt, v_ixr, v_seti, v_pts, v_ptn, v_sls, v_slt, v_slr, v_fld, v_setf, v_okl, v_oks, v_app, v_pop, v_lt, v_le, v_gt, v_ge, v_eq, v_ne, v_in, v_ni, v_eqii, v_eqss, v_eqbb, v_eqsi, v_eqis, v_eqni, v_eqin, v_eqns, v_eqsn, v_trn, v_trb, v_tri, v_trt, v_trr, v_trs, v_fms, v_fmi, v_inp, v_inl, v_ins, t_n, t_b, t_i, t_s, t_t, t_r, tyO_1, tyO_2, tyO_3, tyO_4, y_n, y_b, y_i, y_s, y_t, y_l, y_d, y_o, y_o1, y_o2, y_o3, y_o4, y_o5, y_o6, w_t, w_s, w_r, w_e, w_zt, List.map_cons, List.map_nil, List.replicate_succ, List.replicate_zero, List.cons_append, List.nil_append, List.append_nil, List.set_cons_zero, List.set_cons_succ, List.any_cons, List.any_nil, List.lookup_cons_self, meT, reduceCtorEq, decide_true, decide_false, Bool.or_false, Bool.false_or, Bool.or_true, Bool.true_or, Bool.not_true, Bool.not_false, Bool.and_true, Bool.true_and, Bool.and_false, Bool.false_and, true_and, and_true, wipeE, List.getElem?_concat_length]
    refine ⟨by omega, by omega, ?_⟩
    refine gen (fun d => IsCall d) (by omega) p57 (fun e s P h => ?_) (fun e i s Q' he ps hQ => ?_) (fun ds s8 dl dm dg c8 => ?_)
    · simp (implicitDefEqProofs := false) (dsimp := false) (failIfUnchanged := false) only [lz1, z_ifT, z_ifF, ks_nx, ks_rt, ks_bk, ks_ct, ks_xc, kl_nx, kl_rt, kl_bk, kl_ct, kl_xc, kc_nx, kc_rt, kc_xc, kt_nx, kt_rt, kt_bk, kt_ct, kt_xc, kh_nx, kh_rt, un_n, un_s, isNon_1, isNon_2, isNon_3, isNon_4, isNon_5, isNon_6, isNon_7, boolQ_1, intQ_1, optQ_1, lstQ_1, sqQ_1, sqQ_2, insQ_1, getIx_0, getIx_1, getIx_2, getIx_3, getIx_4, getIx_5, setIx_0, setIx_1, setIx_2, bindQ_nm, bindL_0, bindL_1, bindQ_tp, z_var, z_con, z_glo, z_bin, z_neg, z_cmp, z_chain, z_isN, z_notN, z_and, z_or, z_not, z_ife, z_call, z_make, methQ_1, z_meth, z_fld, z_pr, z_me, z_isi, z_idx, z_sli, z_abs0, z_tup, z_lst, z_fstr, z_efld, z_eisi, z_comp, z_Tcmp, z_Tchain, z_TisN, z_TnotN, z_Tand, z_Tor, z_Tnot, z_Ttv, z_nil, z_cons, z_Fnil, z_Fcons, z_Tsn, z_Ts1, z_rng1, int2Q_1, z_rng2, z_enm, z_zip, z_sq, z_Bnil, z_Bcons, z_asg, z_asgt, z_asg2, z_setf, z_seti, augQ_1, augQ_2, z_augn, z_augf, z_exp, z_ret, z_retN, z_if, z_for, z_whl, z_brk, z_cnt, z_pas, z_rais0, z_rais1, z_try, z_Hnil, z_Hcons, v_v0, v_vs, v_add, v_sub, v_mul, v_fdiv, v_mod, v_pow, v_sadd, v_tadd, v_ladd, v_lmul, v_int, v_intb, v_abs, v_max2, v_min2, v_stri, v_lens, v_lent, v_lenr, v_tupt, v_tupr, v_lstt, v_lstr, v_any, v_all, v_ixt, v_ixr, v_seti, v_pts, v_ptn, v_sls, v_slt, v_slr, v_fld, v_setf, v_okl, v_oks, v_app, v_pop, v_lt, v_le, v_gt, v_ge, v_eq, v_ne, v_in, v_ni, v_eqii, v_eqss, v_eqbb, v_eqsi, v_eqis, v_eqni, v_eqin, v_eqns, v_eqsn, v_trn, v_trb, v_tri, v_trt, v_trr, v_trs, v_fms, v_fmi, v_inp, v_inl, v_ins, t_n, t_b, t_i, t_s, t_t, t_r, tyO_1, tyO_2, tyO_3, tyO_4, y_n, y_b, y_i, y_s, y_t, y_l, y_d, y_o, y_o1, y_o2, y_o3, y_o4, y_o5, y_o6, w_t, w_s, w_r, w_e, w_zt, List.map_cons, List.map_nil, List.replicate_succ, List.replicate_zero, List.cons_append, List.nil_append, List.append_nil, List.set_cons_zero, List.set_cons_succ, List.any_cons, List.any_nil, List.lookup_cons_self, meT, reduceCtorEq, decide_true, decide_false, Bool.or_false, Bool.false_or, Bool.or_true, Bool.true_or, Bool.not_true, Bool.not_false, Bool.and_true, Bool.true_and, Bool.and_false, Bool.false_and, true_and, and_true, wipeE, List.getElem?_concat_length]
      exact h
    · subst he
      simp (implicitDefEqProofs := false) (dsimp := false) (failIfUnchanged := false) only [lz1, z_ifT, z_ifF, ks_nx, ks_rt, ks_bk, ks_ct, ks_xc, kl_nx, kl_rt, kl_bk, kl_ct, kl_xc, kc_nx, kc_rt, kc_xc, kt_nx, kt_rt, kt_bk, kt_ct, kt_xc, kh_nx, kh_rt, un_n, un_s, isNon_1, isNon_2, isNon_3, isNon_4, isNon_5, isNon_6, isNon_7, boolQ_1, intQ_1, optQ_1, lstQ_1, sqQ_1, sqQ_2, insQ_1, getIx_0, getIx_1, getIx_2, getIx_3, getIx_4, getIx_5, setIx_0, setIx_1, setIx_2, bindQ_nm, bindL_0, bindL_1, bindQ_tp, z_var, z_con, z_glo, z_bin, z_neg, z_cmp, z_chain, z_isN, z_notN, z_and, z_or, z_not, z_ife, z_call, z_make, methQ_1, z_meth, z_fld, z_pr, z_me, z_isi, z_idx, z_sli, z_abs0, z_tup, z_lst, z_fstr, z_efld, z_eisi, z_comp, z_Tcmp, z_Tchain, z_TisN, z_TnotN, z_Tand, z_Tor, z_Tnot, z_Ttv, z_nil, z_cons, z_Fnil, z_Fcons, z_Tsn, z_Ts1, z_rng1, int2Q_1, z_rng2, z_enm, z_zip, z_sq, z_Bnil, z_Bcons, z_asg, z_asgt, z_asg2, z_setf, z_seti, augQ_1, augQ_2, z_augn, z_augf, z_exp, z_ret, z_retN, z_if, z_for, z_whl, z_brk, z_cnt, z_pas, z_rais0, z_rais1, z_try, z_Hnil, z_Hcons, v_v0, v_vs, v_add, v_sub, v_mul, v_fdiv, v_mod, v_pow, v_sadd, v_tadd, v_ladd, v_lmul, v_int, v_intb, v_abs, v_max2, v_min2, v_stri, v_lens, v_lent, v_lenr, v_tupt, v_tupr, v_lstt, v_lstr, v_any, v_all, v_ixt, v_ixr, v_seti, v_pts, v_ptn, v_sls, v_slt, v_slr, v_fld, v_setf, v_okl, v_oks, v_app, v_pop, v_lt, v_le, v_gt, v_ge, v_eq, v_ne, v_in, v_ni, v_eqii, v_eqss, v_eqbb, v_eqsi, v_eqis, v_eqni, v_eqin, v_eqns, v_eqsn, v_trn, v_trb, v_tri, v_trt, v_trr, v_trs, v_fms, v_fmi, v_inp, v_inl, v_ins, t_n, t_b, t_i, t_s, t_t, t_r, tyO_1, tyO_2, tyO_3, tyO_4, y_n, y_b, y_i, y_s, y_t, y_l, y_d, y_o, y_o1, y_o2, y_o3, y_o4, y_o5, y_o6, w_t, w_s, w_r, w_e, w_zt, List.map_cons, List.map_nil, List.replicate_succ, List.replicate_zero, List.cons_append, List.nil_append, List.append_nil, List.set_cons_zero, List.set_cons_succ, List.any_cons, List.any_nil, List.lookup_cons_self, meT, reduceCtorEq, decide_true, decide_false, Bool.or_false, Bool.false_or, Bool.or_true, Bool.true_or, Bool.not_true, Bool.not_false, Bool.and_true, Bool.true_and, Bool.and_false, Bool.false_and, true_and, and_true, wipeE, List.getElem?_concat_length]
      exact call ps hQ
    generalize hr : st7.length = r at dg ⊢
    have p68 := c8.pool2 p67 (Ne.symm n56)
    have nr6 : r ≠ h6 := by have := p67.lt; omega
    clear c8 p57 p67
    simp (implicitDefEqProofs := false) (dsimp := false) (failIfUnchanged := false) only [lz1, z_ifT, z_ifF, ks_nx, ks_rt, ks_bk, ks_ct, ks_xc, kl_nx, kl_rt, kl_bk, kl_ct, kl_xc, kc_nx, kc_rt, kc_xc, kt_nx, kt_rt, kt_bk, kt_ct, kt_xc, kh_nx, kh_rt, un_n, un_s, isNon_1, isNon_2, isNon_3, isNon_4, isNon_5, isNon_6, isNon_7, boolQ_1, intQ_1, optQ_1, lstQ_1, sqQ_1, sqQ_2, insQ_1, getIx_0, getIx_1, getIx_2, getIx_3, getIx_4, getIx_5, setIx_0, setIx_1, setIx_2, bindQ_nm, bindL_0, bindL_1, bindQ_tp, z_var, z_con, z_glo, z_bin, z_neg, z_cmp, z_chain, z_isN, z_notN, z_and, z_or, z_not, z_ife, z_call, z_make, methQ_1, z_meth, z_fld, z_pr, z_me, z_isi, z_idx, z_sli, z_abs0, z_tup, z_lst, z_fstr, z_efld, z_eisi, z_comp, z_Tcmp, z_Tchain, z_TisN, z_TnotN, z_Tand, z_Tor, z_Tnot, z_Ttv, z_nil, z_cons, z_Fnil, z_Fcons, z_Tsn, z_Ts1, z_rng1, int2Q_1, z_rng2, z_enm, z_zip, z_sq, z_Bnil, z_Bcons, z_asg, z_asgt, z_asg2, z_setf, z_seti, augQ_1, augQ_2, z_augn, z_augf, z_exp, z_ret, z_retN, z_if, z_for, z_whl, z_brk, z_cnt, z_pas, z_rais0, z_rais1, z_try, z_Hnil, z_Hcons, v_v0, v_vs, v_add, v_sub, v_mul, v_fdiv, v_mod, v_pow, v_sadd, v_tadd, v_ladd, v_lmul, v_int, v_intb, v_abs, v_max2, v_min2, v_stri, v_lens, v_lent, v_lenr, v_tupt, v_tupr, v_lstt, v_lstr, v_any, v_all, v_ixt, v_ixr, v_seti, v_pts, v_ptn, v_sls, v_slt, v_slr, v_fld, v_setf, v_okl, v_oks, v_app, v_pop, v_lt, v_le, v_gt, v_ge, v_eq, v_ne, v_in, v_ni, v_eqii, v_eqss, v_eqbb, v_eqsi, v_eqis, v_eqni, v_eqin, v_eqns, v_eqsn, v_trn, v_trb, v_tri, v_trt, v_trr, v_trs, v_fms, v_fmi, v_inp, v_inl, v_ins, t_n, t_b, t_i, t_s, t_t, t_r, tyO_1, tyO_2, tyO_3, tyO_4, y_n, y_b, y_i, y_s, y_t, y_l, y_d, y_o, y_o1, y_o2, y_o3, y_o4, y_o5, y_o6, w_t, w_s, w_r, w_e, w_zt, List.map_cons, List.map_nil, List.replicate_succ, List.replicate_zero, List.cons_append, List.nil_append, List.append_nil, List.set_cons_zero, List.set_cons_succ, List.any_cons, List.any_nil, List.lookup_cons_self, meT, reduceCtorEq, decide_true, decide_false, Bool.or_false, Bool.false_or, Bool.or_true, Bool.true_or, Bool.not_true, Bool.not_false, Bool.and_true, Bool.true_and, Bool.and_false, Bool.false_and, true_and, and_true, wipeE, List.getElem?_concat_length]
    refine draw (by decide) (by decide) p68 fun v9 st9 v90 v91 l9 c9 => ?_
    have p69 := c9.pool
    have e9 := c9.get dg nr6
    clear c9 dg p68
    simp (implicitDefEqProofs := false) (dsimp := false) (failIfUnchanged := false) only [lz1, z_ifT, z_ifF, ks_nx, ks_rt, ks_bk, ks_ct, ks_xc, kl_nx, kl_rt, kl_bk, kl_ct, kl_xc, kc_nx, kc_rt, kc_xc, kt_nx, kt_rt, kt_bk, kt_ct, kt_xc, kh_nx, kh_rt, un_n, un_s, isNon_1, isNon_2, isNon_3, isNon_4, isNon_5, isNon_6, isNon_7, boolQ_1, intQ_1, optQ_1, lstQ_1, sqQ_1, sqQ_2, insQ_1, getIx_0, getIx_1, getIx_2, getIx_3, getIx_4, getIx_5, setIx_0, setIx_1, setIx_2, bindQ_nm, bindL_0, bindL_1, bindQ_tp, z_var, z_con, z_glo, z_bin, z_neg, z_cmp, z_chain, z_isN, z_notN, z_and, z_or, z_not, z_ife, z_call, z_make, methQ_1, z_meth, z_fld, z_pr, z_me, z_isi, z_idx, z_sli, z_abs0, z_tup, z_lst, z_fstr, z_efld, z_eisi, z_comp, z_Tcmp, z_Tchain, z_TisN, z_TnotN, z_Tand, z_Tor, z_Tnot, z_Ttv, z_nil, z_cons, z_Fnil, z_Fcons, z_Tsn, z_Ts1, z_rng1, int2Q_1, z_rng2, z_enm, z_zip, z_sq, z_Bnil, z_Bcons, z_asg, z_asgt, z_asg2, z_setf, z_seti, augQ_1, augQ_2, z_augn, z_augf, z_exp, z_ret, z_retN, z_if, z_for, z_whl, z_brk, z_cnt, z_pas, z_rais0, z_rais1, z_try, z_Hnil, z_Hcons, v_v0, v_vs, v_add, v_sub, v_mul, v_fdiv, v_mod, v_pow, v_sadd, v_tadd, v_ladd, v_lmul, v_int, v_intb, v_abs, v_max2, v_min2, v_stri, v_lens, v_lent, v_lenr, v_tupt, v_tupr, v_lstt, v_lstr, v_any, v_all, v_ixt, v_ixr, v_seti, v_pts, v_ptn, v_sls, v_slt, v_slr, v_fld, v_setf, v_okl, v_oks, v_app, v_pop, v_lt, v_le, v_gt, v_ge, v_eq, v_ne, v_in, v_ni, v_eqii, v_eqss, v_eqbb, v_eqsi, v_eqis, v_eqni, v_eqin, v_eqns, v_eqsn, v_trn, v_trb, v_tri, v_trt, v_trr, v_trs, v_fms, v_fmi, v_inp, v_inl, v_ins, t_n, t_b, t_i, t_s, t_t, t_r, tyO_1, tyO_2, tyO_3, tyO_4, y_n, y_b, y_i, y_s, y_t, y_l, y_d, y_o, y_o1, y_o2, y_o3, y_o4, y_o5, y_o6, w_t, w_s, w_r, w_e, w_zt, List.map_cons, List.map_nil, List.replicate_succ, List.replicate_zero, List.cons_append, List.nil_append, List.append_nil, List.set_cons_zero, List.set_cons_succ, List.any_cons, List.any_nil, List.lookup_cons_self, meT, reduceCtorEq, decide_true, decide_false, Bool.or_false, Bool.false_or, Bool.or_true, Bool.true_or, Bool.not_true, Bool.not_false, Bool.and_true, Bool.true_and, Bool.and_false, Bool.false_and, true_and, and_true, wipeE, List.getElem?_concat_length]
    refine ⟨by omega, by omega, ?_⟩
    refine gen (fun d => IsItem d) (by omega) p69 (fun e s P h => ?_) (fun e i s Q' he ps hQ => ?_) (fun es s10 el2 em2 eg2 c10 => ?_)
    · simp (implicitDefEqProofs := false) (dsimp := false) (failIfUnchanged := false) only [lz1, z_ifT, z_ifF, ks_nx, ks_rt, ks_bk, ks_ct, ks_xc, kl_nx, kl_rt, kl_bk, kl_ct, kl_xc, kc_nx, kc_rt, kc_xc, kt_nx, kt_rt, kt_bk, kt_ct, kt_xc, kh_nx, kh_rt, un_n, un_s, isNon_1, isNon_2, isNon_3, isNon_4, isNon_5, isNon_6, isNon_7, boolQ_1, intQ_1, optQ_1, lstQ_1, sqQ_1, sqQ_2, insQ_1, getIx_0, getIx_1, getIx_2, getIx_3, getIx_4, getIx_5, setIx_0, setIx_1, setIx_2, bindQ_nm, bindL_0, bindL_1, bindQ_tp, z_var, z_con, z_glo, z_bin, z_neg, z_cmp, z_chain, z_isN, z_notN, z_and, z_or, z_not, z_ife, z_call, z_make, methQ_1, z_meth, z_fld, z_pr, z_me, z_isi, z_idx, z_sli, z_abs0, z_tup, z_lst, z_fstr, z_efld, z_eisi, z_comp, z_Tcmp, z_Tchain, z_TisN, z_TnotN, z_Tand, z_Tor, z_Tnot, z_Ttv, z_nil, z_cons, z_Fnil, z_Fcons, z_Tsn, z_Ts1, z_rng1, int2Q_1, z_rng2, z_enm, z_zip, z_sq, z_Bnil, z_Bcons, z_asg, z_asgt, z_asg2, z_setf, z_seti, augQ_1, augQ_2, z_augn, z_augf, z_exp, z_ret, z_retN, z_if, z_for, z_whl, z_brk, z_cnt, z_pas, z_rais0, z_rais1, z_try, z_Hnil, z_Hcons, v_v0, v_vs, v_add, v_sub, v_mul, v_fdiv, v_mod, v_pow, v_sadd, v_tadd, v_ladd, v_lmul, v_int, v_intb, v_abs, v_max2, v_min2, v_stri, v_lens, v_lent, v_lenr, v_tupt, v_tupr, v_lstt, v_lstr, v_any, v_all, v_ixt, v_ixr, v_seti, v_pts, v_ptn, v_sls, v_slt, v_slr, v_fld, v_setf, v_okl, v_oks, v_app, v_pop, v_lt, v_le, v_gt, v_ge, v_eq, v_ne, v_in, v_ni, v_eqii, v_eqss, v_eqbb, v_eqsi, v_eqis, v_eqni, v_eqin, v_eqns, v_eqsn, v_trn, v_trb, v_tri, v_trt, v_trr, v_trs, v_fms, v_fmi, v_inp, v_inl, v_ins, t_n, t_b, t_i, t_s, t_t, t_r, tyO_1, tyO_2, tyO_3, tyO_4, y_n, y_b, y_i, y_s, y_t, y_l, y_d, y_o, y_o1, y_o2, y_o3, y_o4, y_o5, y_o6, w_t, w_s, w_r, w_e, w_zt, List.map_cons, List.map_nil, List.replicate_succ, List.replicate_zero, List.cons_append, List.nil_append, List.append_nil, List.set_cons_zero, List.set_cons_succ, List.any_cons, List.any_nil, List.lookup_cons_self, meT, reduceCtorEq, decide_true, decide_false, Bool.or_false, Bool.false_or, Bool.or_true, Bool.true_or, Bool.not_true, Bool.not_false, Bool.and_true, Bool.true_and, Bool.and_false, Bool.false_and, true_and, and_true, wipeE, List.getElem?_concat_length]
      exact h
    · subst he
      simp (implicitDefEqProofs := false) (dsimp := false) (failIfUnchanged := false) only [lz1, z_ifT, z_ifF, ks_nx, ks_rt, ks_bk, ks_ct, ks_xc, kl_nx, kl_rt, kl_bk, kl_ct, kl_xc, kc_nx, kc_rt, kc_xc, kt_nx, kt_rt, kt_bk, kt_ct, kt_xc, kh_nx, kh_rt, un_n, un_s, isNon_1, isNon_2, isNon_3, isNon_4, isNon_5, isNon_6, isNon_7, boolQ_1, intQ_1, optQ_1, lstQ_1, sqQ_1, sqQ_2, insQ_1, getIx_0, getIx_1, getIx_2, getIx_3, getIx_4, getIx_5, setIx_0, setIx_1, setIx_2, bindQ_nm, bindL_0, bindL_1, bindQ_tp, z_var, z_con, z_glo, z_bin, z_neg, z_cmp, z_chain, z_isN, z_notN, z_and, z_or, z_not, z_ife, z_call, z_make, methQ_1, z_meth, z_fld, z_pr, z_me, z_isi, z_idx, z_sli, z_abs0, z_tup, z_lst, z_fstr, z_efld, z_eisi, z_comp, z_Tcmp, z_Tchain, z_TisN, z_TnotN, z_Tand, z_Tor, z_Tnot, z_Ttv, z_nil, z_cons, z_Fnil, z_Fcons, z_Tsn, z_Ts1, z_rng1, int2Q_1, z_rng2, z_enm, z_zip, z_sq, z_Bnil, z_Bcons, z_asg, z_asgt, z_asg2, z_setf, z_seti, augQ_1, augQ_2, z_augn, z_augf, z_exp, z_ret, z_retN, z_if, z_for, z_whl, z_brk, z_cnt, z_pas, z_rais0, z_rais1, z_try, z_Hnil, z_Hcons, v_v0, v_vs, v_add, v_sub, v_mul, v_fdiv, v_mod, v_pow, v_sadd, v_tadd, v_ladd, v_lmul, v_int, v_intb, v_abs, v_max2, v_min2, v_stri, v_lens, v_lent, v_lenr, v_tupt, v_tupr, v_lstt, v_lstr, v_any, v_all, v_ixt, v_ixr, v_seti, v_pts, v_ptn, v_sls, v_slt, v_slr, v_fld, v_setf, v_okl, v_oks, v_app, v_pop, v_lt, v_le, v_gt, v_ge, v_eq, v_ne, v_in, v_ni, v_eqii, v_eqss, v_eqbb, v_eqsi, v_eqis, v_eqni, v_eqin, v_eqns, v_eqsn, v_trn, v_trb, v_tri, v_trt, v_trr, v_trs, v_fms, v_fmi, v_inp, v_inl, v_ins, t_n, t_b, t_i, t_s, t_t, t_r, tyO_1, tyO_2, tyO_3, tyO_4, y_n, y_b, y_i, y_s, y_t, y_l, y_d, y_o, y_o1, y_o2, y_o3, y_o4, y_o5, y_o6, w_t, w_s, w_r, w_e, w_zt, List.map_cons, List.map_nil, List.replicate_succ, List.replicate_zero, List.cons_append, List.nil_append, List.append_nil, List.set_cons_zero, List.set_cons_succ, List.any_cons, List.any_nil, List.lookup_cons_self, meT, reduceCtorEq, decide_true, decide_false, Bool.or_false, Bool.false_or, Bool.or_true, Bool.true_or, Bool.not_true, Bool.not_false, Bool.and_true, Bool.true_and, Bool.and_false, Bool.false_and, true_and, and_true, wipeE, List.getElem?_concat_length]
      exact item ps hQ
    have e10 := c10.get e9 nr6
    generalize hw : st9.length = w at eg2 ⊢
    clear c10 e9 p69
    simp (implicitDefEqProofs := false) (dsimp := false) (failIfUnchanged := false) only [lz1, z_ifT, z_ifF, ks_nx, ks_rt, ks_bk, ks_ct, ks_xc, kl_nx, kl_rt, kl_bk, kl_ct, kl_xc, kc_nx, kc_rt, kc_xc, kt_nx, kt_rt, kt_bk, kt_ct, kt_xc, kh_nx, kh_rt, un_n, un_s, isNon_1, isNon_2, isNon_3, isNon_4, isNon_5, isNon_6, isNon_7, boolQ_1, intQ_1, optQ_1, lstQ_1, sqQ_1, sqQ_2, insQ_1, getIx_0, getIx_1, getIx_2, getIx_3, getIx_4, getIx_5, setIx_0, setIx_1, setIx_2, bindQ_nm, bindL_0, bindL_1, bindQ_tp, z_var, z_con, z_glo, z_bin, z_neg, z_cmp, z_chain, z_isN, z_notN, z_and, z_or, z_not, z_ife, z_call, z_make, methQ_1, z_meth, z_fld, z_pr, z_me, z_isi, z_idx, z_sli, z_abs0, z_tup, z_lst, z_fstr, z_efld, z_eisi, z_comp, z_Tcmp, z_Tchain, z_TisN, z_TnotN, z_Tand, z_Tor, z_Tnot, z_Ttv, z_nil, z_cons, z_Fnil, z_Fcons, z_Tsn, z_Ts1, z_rng1, int2Q_1, z_rng2, z_enm, z_zip, z_sq, z_Bnil, z_Bcons, z_asg, z_asgt, z_asg2, z_setf, z_seti, augQ_1, augQ_2, z_augn, z_augf, z_exp, z_ret, z_retN, z_if, z_for, z_whl, z_brk, z_cnt, z_pas, z_rais0, z_rais1, z_try, z_Hnil, z_Hcons, v_v0, v_vs, v_add, v_sub, v_mul, v_fdiv, v_mod, v_pow, v_sadd, v_tadd, v_ladd, v_lmul, v_int, v_intb, v_abs, v_max2, v_min2, v_stri, v_lens, v_lent, v_lenr, v_tupt, v_tupr, v_lstt, v_lstr, v_any, v_all, v_ixt, v_ixr, v_seti, v_pts, v_ptn, v_sls, v_slt, v_slr, v_fld, v_setf, v_okl, v_oks, v_app, v_pop, v_lt, v_le, v_gt, v_ge, v_eq, v_ne, v_in, v_ni, v_eqii, v_eqss, v_eqbb, v_eqsi, v_eqis, v_eqni, v_eqin, v_eqns, v_eqsn, v_trn, v_trb, v_tri, v_trt, v_trr, v_trs, v_fms, v_fmi, v_inp, v_inl, v_ins, t_n, t_b, t_i, t_s, t_t, t_r, tyO_1, tyO_2, tyO_3, tyO_4, y_n, y_b, y_i, y_s, y_t, y_l, y_d, y_o, y_o1, y_o2, y_o3, y_o4, y_o5, y_o6, w_t, w_s, w_r, w_e, w_zt, List.map_cons, List.map_nil, List.replicate_succ, List.replicate_zero, List.cons_append, List.nil_append, List.append_nil, List.set_cons_zero, List.set_cons_succ, List.any_cons, List.any_nil, List.lookup_cons_self, meT, reduceCtorEq, decide_true, decide_false, Bool.or_false, Bool.false_or, Bool.or_true, Bool.true_or, Bool.not_true, Bool.not_false, Bool.and_true, Bool.true_and, Bool.and_false, Bool.false_and, true_and, and_true, wipeE, List.getElem?_concat_length, e10]
    refine ⟨⟨by decide, by decide, le_line (Nat.le_trans (Nat.mul_le_mul (show _ ≤ 20 by omega) (show _ ≤ 20 by decide)) (by decide))⟩, ?_⟩
    refine lawrow' (get_snoc _ _) (fun d hd => dm d (rep_mem hd)) (by rw [rep_len]; exact Nat.le_trans (Nat.mul_le_mul (show _ ≤ 20 by decide) (show _ ≤ 20 by omega)) (by decide)) fun s11 k11 => ?_
    have e11 := k11.get (get_app _ e10)
    have g11 := k11.get (get_app _ eg2)
    clear k11 e10 eg2
    simp (implicitDefEqProofs := false) (dsimp := false) (failIfUnchanged := false) only [lz1, z_ifT, z_ifF, ks_nx, ks_rt, ks_bk, ks_ct, ks_xc, kl_nx, kl_rt, kl_bk, kl_ct, kl_xc, kc_nx, kc_rt, kc_xc, kt_nx, kt_rt, kt_bk, kt_ct, kt_xc, kh_nx, kh_rt, un_n, un_s, isNon_1, isNon_2, isNon_3, isNon_4, isNon_5, isNon_6, isNon_7, boolQ_1, intQ_1, optQ_1, lstQ_1, sqQ_1, sqQ_2, insQ_1, getIx_0, getIx_1, getIx_2, getIx_3, getIx_4, getIx_5, setIx_0, setIx_1, setIx_2, bindQ_nm, bindL_0, bindL_1, bindQ_tp, z_var, z_con, z_glo, z_bin, z_neg, z_cmp, z_chain, z_isN, z_notN, z_and, z_or, z_not, z_ife, z_call, z_make, methQ_1, z_meth, z_fld, z_pr, z_me, z_isi, z_idx, z_sli, z_abs0, z_tup, z_lst, z_fstr, z_efld, z_eisi, z_comp, z_Tcmp, z_Tchain, z_TisN, z_TnotN, z_Tand, z_Tor, z_Tnot, z_Ttv, z_nil, z_cons, z_Fnil, z_Fcons, z_Tsn, z_Ts1, z_rng1, int2Q_1, z_rng2, z_enm, z_zip, z_sq, z_Bnil, z_Bcons, z_asg, z_asgt, z_asg2, z_setf, z_seti, augQ_1, augQ_2, z_augn, z_augf, z_exp, z_ret, z_retN, z_if, z_for, z_whl, z_brk, z_cnt, z_pas, z_rais0, z_rais1, z_try, z_Hnil, z_Hcons, v_v0, v_vs, v_add, v_sub, v_mul, v_fdiv, v_mod, v_pow, v_sadd, v_tadd, v_ladd, v_lmul, v_int, v_intb, v_abs, v_max2, v_min2, v_stri, v_lens, v_lent, v_lenr, v_tupt, v_tupr, v_lstt, v_lstr, v_any, v_all, v_ixt, v_ixr, v_seti, v_pts, v_ptn, v_sls, v_slt, v_slr, v_fld, v_setf, v_okl, v_oks, v_app, v_pop, v_lt, v_le, v_gt, v_ge, v_eq, v_ne, v_in, v_ni, v_eqii, v_eqss, v_eqbb, v_eqsi, v_eqis, v_eqni, v_eqin, v_eqns, v_eqsn, v_trn, v_trb, v_tri, v_trt, v_trr, v_trs, v_fms, v_fmi, v_inp, v_inl, v_ins, t_n, t_b, t_i, t_s, t_t, t_r, tyO_1, tyO_2, tyO_3, tyO_4, y_n, y_b, y_i, y_s, y_t, y_l, y_d, y_o, y_o1, y_o2, y_o3, y_o4, y_o5, y_o6, w_t, w_s, w_r, w_e, w_zt, List.map_cons, List.map_nil, List.replicate_succ, List.replicate_zero, List.cons_append, List.nil_append, List.append_nil, List.set_cons_zero, List.set_cons_succ, List.any_cons, List.any_nil, List.lookup_cons_self, meT, reduceCtorEq, decide_true, decide_false, Bool.or_false, Bool.false_or, Bool.or_true, Bool.true_or, Bool.not_true, Bool.not_false, Bool.and_true, Bool.true_and, Bool.and_false, Bool.false_and, true_and, and_true, wipeE, List.getElem?_concat_length, g11]
    refine ⟨⟨by decide, by decide, le_line (Nat.le_trans (Nat.mul_le_mul (show _ ≤ 20 by omega) (show _ ≤ 20 by decide)) (by decide))⟩, ?_⟩
    refine lawweaving' (get_snoc _ _) (fun d hd => em2 d (rep_mem hd)) (by rw [rep_len]; exact Nat.le_trans (Nat.mul_le_mul (show _ ≤ 20 by decide) (show _ ≤ 20 by omega)) (by decide)) fun s12 k12 => ?_
    have e12 := k12.get (get_app _ e11)
    have g12 := k12.get (get_app _ g11)
    clear k12 e11 g11
    simp (implicitDefEqProofs := false) (dsimp := false) (failIfUnchanged := false) only [lz1, z_ifT, z_ifF, ks_nx, ks_rt, ks_bk, ks_ct, ks_xc, kl_nx, kl_rt, kl_bk, kl_ct, kl_xc, kc_nx, kc_rt, kc_xc, kt_nx, kt_rt, kt_bk, kt_ct, kt_xc, kh_nx, kh_rt, un_n, un_s, isNon_1, isNon_2, isNon_3, isNon_4, isNon_5, isNon_6, isNon_7, boolQ_1, intQ_1, optQ_1, lstQ_1, sqQ_1, sqQ_2, insQ_1, getIx_0, getIx_1, getIx_2, getIx_3, getIx_4, getIx_5, setIx_0, setIx_1, setIx_2, bindQ_nm, bindL_0, bindL_1, bindQ_tp, z_var, z_con, z_glo, z_bin, z_neg, z_cmp, z_chain, z_isN, z_notN, z_and, z_or, z_not, z_ife, z_call, z_make, methQ_1, z_meth, z_fld, z_pr, z_me, z_isi, z_idx, z_sli, z_abs0, z_tup, z_lst, z_fstr, z_efld, z_eisi, z_comp, z_Tcmp, z_Tchain, z_TisN, z_TnotN, z_Tand, z_Tor, z_Tnot, z_Ttv, z_nil, z_cons, z_Fnil, z_Fcons, z_Tsn, z_Ts1, z_rng1, int2Q_1, z_rng2, z_enm, z_zip, z_sq, z_Bnil, z_Bcons, z_asg, z_asgt, z_asg2, z_setf, z_seti, augQ_1, augQ_2, z_augn, z_augf, z_exp, z_ret, z_retN, z_if, z_for, z_whl, z_brk, z_cnt, z_pas, z_rais0, z_rais1, z_try, z_Hnil, z_Hcons, v_v0, v_vs, v_add, v_sub, v_mul, v_fdiv, v_mod, v_pow, v_sadd, v_tadd, v_ladd, v_lmul, v_int, v_intb, v_abs, v_max2, v_min2, v_stri, v_lens, v_lent, v_lenr, v_tupt, v_tupr, v_lstt, v_lstr, v_any, v_all, v_ixt, v_ixr, v_seti, v_pts, v_ptn, v_sls, v_slt, v_slr, v_fld, v_setf, v_okl, v_oks, v_app, v_pop, v_lt, v_le, v_gt, v_ge, v_eq, v_ne, v_in, v_ni, v_eqii, v_eqss, v_eqbb, v_eqsi, v_eqis, v_eqni, v_eqin, v_eqns, v_eqsn, v_trn, v_trb, v_tri, v_trt, v_trr, v_trs, v_fms, v_fmi, v_inp, v_inl, v_ins, t_n, t_b, t_i, t_s, t_t, t_r, tyO_1, tyO_2, tyO_3, tyO_4, y_n, y_b, y_i, y_s, y_t, y_l, y_d, y_o, y_o1, y_o2, y_o3, y_o4, y_o5, y_o6, w_t, w_s, w_r, w_e, w_zt, List.map_cons, List.map_nil, List.replicate_succ, List.replicate_zero, List.cons_append, List.nil_append, List.append_nil, List.set_cons_zero, List.set_cons_succ, List.any_cons, List.any_nil, List.lookup_cons_self, meT, reduceCtorEq, decide_true, decide_false, Bool.or_false, Bool.false_or, Bool.or_true, Bool.true_or, Bool.not_true, Bool.not_false, Bool.and_true, Bool.true_and, Bool.and_false, Bool.false_and, true_and, and_true, wipeE, List.getElem?_concat_length]
    refine lawstate (by omega) (by omega) hvs fun s13 k13 => ?_
    have e13 := k13.get e12
    have g13 := k13.get g12
    clear k13 e12 g12
    simp (implicitDefEqProofs := false) (dsimp := false) (failIfUnchanged := false) only [lz1, z_ifT, z_ifF, ks_nx, ks_rt, ks_bk, ks_ct, ks_xc, kl_nx, kl_rt, kl_bk, kl_ct, kl_xc, kc_nx, kc_rt, kc_xc, kt_nx, kt_rt, kt_bk, kt_ct, kt_xc, kh_nx, kh_rt, un_n, un_s, isNon_1, isNon_2, isNon_3, isNon_4, isNon_5, isNon_6, isNon_7, boolQ_1, intQ_1, optQ_1, lstQ_1, sqQ_1, sqQ_2, insQ_1, getIx_0, getIx_1, getIx_2, getIx_3, getIx_4, getIx_5, setIx_0, setIx_1, setIx_2, bindQ_nm, bindL_0, bindL_1, bindQ_tp, z_var, z_con, z_glo, z_bin, z_neg, z_cmp, z_chain, z_isN, z_notN, z_and, z_or, z_not, z_ife, z_call, z_make, methQ_1, z_meth, z_fld, z_pr, z_me, z_isi, z_idx, z_sli, z_abs0, z_tup, z_lst, z_fstr, z_efld, z_eisi, z_comp, z_Tcmp, z_Tchain, z_TisN, z_TnotN, z_Tand, z_Tor, z_Tnot, z_Ttv, z_nil, z_cons, z_Fnil, z_Fcons, z_Tsn, z_Ts1, z_rng1, int2Q_1, z_rng2, z_enm, z_zip, z_sq, z_Bnil, z_Bcons, z_asg, z_asgt, z_asg2, z_setf, z_seti, augQ_1, augQ_2, z_augn, z_augf, z_exp, z_ret, z_retN, z_if, z_for, z_whl, z_brk, z_cnt, z_pas, z_rais0, z_rais1, z_try, z_Hnil, z_Hcons, v_v0, v_vs, v_add, v_sub, v_mul, v_fdiv, v_mod, v_pow, v_sadd, v_tadd, v_ladd, v_lmul, v_int, v_intb, v_abs, v_max2, v_min2, v_stri, v_lens, v_lent, v_lenr, v_tupt, v_tupr, v_lstt, v_lstr, v_any, v_all, v_ixt, v_ixr, v_seti, v_pts, v_ptn, v_sls, v_slt, v_slr, v_fld, v_setf, v_okl, v_oks, v_app, v_pop, v_lt, v_le, v_gt, v_ge, v_eq, v_ne, v_in, v_ni, v_eqii, v_eqss, v_eqbb, v_eqsi, v_eqis, v_eqni, v_eqin, v_eqns, v_eqsn, v_trn, v_trb, v_tri, v_trt, v_trr, v_trs, v_fms, v_fmi, v_inp, v_inl, v_ins, t_n, t_b, t_i, t_s, t_t, t_r, tyO_1, tyO_2, tyO_3, tyO_4, y_n, y_b, y_i, y_s, y_t, y_l, y_d, y_o, y_o1, y_o2, y_o3, y_o4, y_o5, y_o6, w_t, w_s, w_r, w_e, w_zt, List.map_cons, List.map_nil, List.replicate_succ, List.replicate_zero, List.cons_append, List.nil_append, List.append_nil, List.set_cons_zero, List.set_cons_succ, List.any_cons, List.any_nil, List.lookup_cons_self, meT, reduceCtorEq, decide_true, decide_false, Bool.or_false, Bool.false_or, Bool.or_true, Bool.true_or, Bool.not_true, Bool.not_false, Bool.and_true, Bool.true_and, Bool.and_false, Bool.false_and, true_and, and_true, wipeE, List.getElem?_concat_length, e13]
    refine lawrow' (get_snoc _ _) (fun d hd => dm d (cut_1 d hd)) (Nat.le_trans (cut_len _ _) (by omega)) fun s14 k14 => ?_
    have g14 := k14.get (get_app _ g13)
    clear k14 e13 g13
    simp (implicitDefEqProofs := false) (dsimp := false) (failIfUnchanged := false) only [lz1, z_ifT, z_ifF, ks_nx, ks_rt, ks_bk, ks_ct, ks_xc, kl_nx, kl_rt, kl_bk, kl_ct, kl_xc, kc_nx, kc_rt, kc_xc, kt_nx, kt_rt, kt_bk, kt_ct, kt_xc, kh_nx, kh_rt, un_n, un_s, isNon_1, isNon_2, isNon_3, isNon_4, isNon_5, isNon_6, isNon_7, boolQ_1, intQ_1, optQ_1, lstQ_1, sqQ_1, sqQ_2, insQ_1, getIx_0, getIx_1, getIx_2, getIx_3, getIx_4, getIx_5, setIx_0, setIx_1, setIx_2, bindQ_nm, bindL_0, bindL_1, bindQ_tp, z_var, z_con, z_glo, z_bin, z_neg, z_cmp, z_chain, z_isN, z_notN, z_and, z_or, z_not, z_ife, z_call, z_make, methQ_1, z_meth, z_fld, z_pr, z_me, z_isi, z_idx, z_sli, z_abs0, z_tup, z_lst, z_fstr, z_efld, z_eisi, z_comp, z_Tcmp, z_Tchain, z_TisN, z_TnotN, z_Tand, z_Tor, z_Tnot, z_Ttv, z_nil, z_cons, z_Fnil, z_Fcons, z_Tsn, z_Ts1, z_rng1, int2Q_1, z_rng2, z_enm, z_zip, z_sq, z_Bnil, z_Bcons, z_asg, z_asgt, z_asg2, z_setf, z_seti, augQ_1, augQ_2, z_augn, z_augf, z_exp, z_ret, z_retN, z_if, z_for, z_whl, z_brk, z_cnt, z_pas, z_rais0, z_rais1, z_try, z_Hnil, z_Hcons, v_v0, v_vs, v_add, v_sub, v_mul, v_fdiv, v_mod, v_pow, v_sadd, v_tadd, v_ladd, v_lmul, v_int, v_intb, v_abs, v_max2, v_min2, v_stri, v_lens, v_lent, v_lenr, v_tupt, v_tupr, v_lstt, v_lstr, v_any, v_all, v_ixt, v_ixr, v_seti, v_pts, v_ptn, v_sls, v_slt, v_slr, v_fld, v_setf, v_okl, v_oks, v_app, v_pop, v_lt, v_le, v_gt, v_ge, v_eq, v_ne, v_in, v_ni, v_eqii, v_eqss, v_eqbb, v_eqsi, v_eqis, v_eqni, v_eqin, v_eqns, v_eqsn, v_trn, v_trb, v_tri, v_trt, v_trr, v_trs, v_fms, v_fmi, v_inp, v_inl, v_ins, t_n, t_b, t_i, t_s, t_t, t_r, tyO_1, tyO_2, tyO_3, tyO_4, y_n, y_b, y_i, y_s, y_t, y_l, y_d, y_o, y_o1, y_o2, y_o3, y_o4, y_o5, y_o6, w_t, w_s, w_r, w_e, w_zt, List.map_cons, List.map_nil, List.replicate_succ, List.replicate_zero, List.cons_append, List.nil_append, List.append_nil, List.set_cons_zero, List.set_cons_succ, List.any_cons, List.any_nil, List.lookup_cons_self, meT, reduceCtorEq, decide_true, decide_false, Bool.or_false, Bool.false_or, Bool.or_true, Bool.true_or, Bool.not_true, Bool.not_false, Bool.and_true, Bool.true_and, Bool.and_false, Bool.false_and, true_and, and_true, wipeE, List.getElem?_concat_length, g14]
    exact lawweaving' (get_snoc _ _) (fun d hd => em2 d (cut_2 d hd)) (Nat.le_trans (cut_len _ _) (by omega)) fun s15 k15 => rfl
end Y.K_k17
namespace Y.K_k17
open PySem PySem.Spec PyProof.Rows L2
abbrev R : PySem.W.OpenRow := PySem.W.OpenLaw.row PySem.Challenge.rw_pastless_k17_rows_weavings_states_as_tex
abbrev hk : PySem.W.Hook := He.hookX 5 [] L.defs [] [] L.facts
def ob (s : PySem.W.SharedT) : He.AlX := He.obsX 5 [] L.defs [] [] L.facts (HandSHeadRun.getT s)
theorem ob_eq (s : PySem.W.SharedT) : ob s = hk.obs s.abs := He.obsX_eq (HandSHeadRun.getT_eq s)
def loose : List Str := (["PastError", "NoState", "NoRow", "NoWeaving", "NoText", "LETTERS", "is_integer", "is_name", "LARGEST", "HELD", "is_small", "is_call_form", "call_words", "call_of", "row_text", "lines_of"] : List Str) ++ (["read_row", "item_words", "weaving_text", "item_of", "read_weaving", "state_text", "read_state", "_law_pool", "_law_draw", "_law_name", "_law_call", "_law_item", "_law_call_line", "_law_item_line", "_law_same", "_law_is_list"] : List Str) ++ (["_law_row", "_law_weaving", "_law_state"] : List Str)
theorem run (w : World) : HandSHeadRun.RunEq R (PySem.W.view R.prog [39]) hk ob 20000 loose w := by
  intro os
  kernel_rfl
end Y.K_k17
open PySem PySem.W PySem.Calls PyProof.Rows
theorem PySem.Challenge.cw_pastless_k17_rows_weavings_states_as_tex_holds : PySem.Challenge.rw_pastless_k17_rows_weavings_states_as_tex.Holds := by
  w_on; o_law
  refine HandSHeadRun.head_any (r := OpenLaw.row PySem.Challenge.rw_pastless_k17_rows_weavings_states_as_tex) (q := view (OpenLaw.row PySem.Challenge.rw_pastless_k17_rows_weavings_states_as_tex).prog [39]) (H := Y.K_k17.hk) (ob := Y.K_k17.ob) (M := 20000) (loose := Y.K_k17.loose) (d := HandSHeadRun.topDef (OpenLaw.row PySem.Challenge.rw_pastless_k17_rows_weavings_states_as_tex).prog 39) (kwd := []) Y.K_k17.ob_eq
    (by kernel_rfl) (fun s => by kernel_rfl) Y.K_k17.run (by kernel_rfl) (by kernel_rfl) (by kernel_rfl) (by rfl) (by first | assumption | decide +kernel) (by decide +kernel) ⟨rfl, rfl, rfl, rfl, rfl, by decide +kernel⟩ ?hw ?hc
  case hw => w_witness2
  case hc =>
    exact Y.walk_y (l := PySem.Challenge.rw_pastless_k17_rows_weavings_states_as_tex) (m := 63) (k := 100) (x := "_law_script") Y.K_k17.L 27 (e := Y.K_k17.f_law) rfl (by decide) (by kernel_rfl) ⟨rfl, by decide, by decide⟩ Y.K_k17.stat rfl (by kernel_rfl) rfl (fun w h y => Y.told_of y) fun ns hl => Y.K_k17.law hl
