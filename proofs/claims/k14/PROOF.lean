import PyProof.Rows.All
import Wide.All
import OpenK.AllK
import Wide.FinOn
import HandS.ForMost
import HandS.ForExc
import HandS.ExcInit
import HandS.ExcField
import HandS.ExcIs
import HandS.Defaults
import HandS.IsInst
import HandS.FStr
import HandS.TupAny
import HandS.TupLen
import HandS.DictComp
import HandS.Zip
import HandS.Small
import HandS.Replace
import HandS.Style
import HandS.Rev
import HandS.TryMany
import HandS.EndBits
import HandS.HeadEnd
import HandS.HeadHook3
import HandS.Head2
import KE.KEqNest
import HandS.TupMul
import KE.GoesMore
import KE.GoesZip
import HandS.Head0
import HandS.Head1
import HandS.HeadHook4
import KE.KStateDown
import HandS.Words
import HandS.Text
import PySem.Challenge.RW_pastless_k14_expressions_as_texts
set_option Elab.async false
set_option linter.all false
set_option maxRecDepth 100000
set_option maxHeartbeats 4000000
namespace Y
open PySem
inductive D where
  | non | bl (b : Bool) | int (i : Int) | str (x : List Nat) | tup (ds : List D) | ref (h : Nat) | kon (k : Nat)
mutual
def D.eqb : D → D → Bool
  | .non, .non => true
  | .bl a, .bl b => a == b
  | .int a, .int b => a == b
  | .str a, .str b => decide (a = b)
  | .tup a, .tup b => D.eqbs a b
  | .ref a, .ref b => a == b
  | .kon a, .kon b => a == b
  | _, _ => false
def D.eqbs : List D → List D → Bool
  | [], [] => true
  | a :: as, b :: bs => D.eqb a b && D.eqbs as bs
  | _, _ => false
end
mutual
theorem D.eqb_iff : ∀ a b : D, D.eqb a b = true ↔ a = b
  | .tup a, b => by
    cases b <;> simp only [D.eqb, Bool.false_eq_true, reduceCtorEq]
    rename_i ds
    rw [D.eqbs_iff a ds]
    exact ⟨fun h => by rw [h], fun h => by injection h⟩
  | .non, b => by cases b <;> simp [D.eqb]
  | .bl x, b => by cases b <;> simp [D.eqb]
  | .int x, b => by cases b <;> simp [D.eqb]
  | .str x, b => by cases b <;> simp [D.eqb]
  | .ref x, b => by cases b <;> simp [D.eqb]
  | .kon x, b => by cases b <;> simp [D.eqb]
theorem D.eqbs_iff : ∀ a b : List D, D.eqbs a b = true ↔ a = b
  | [], [] => by simp [D.eqbs]
  | [], _ :: _ => by simp [D.eqbs]
  | _ :: _, [] => by simp [D.eqbs]
  | a :: as, b :: bs => by
    simp only [D.eqbs, Bool.and_eq_true, List.cons.injEq]
    rw [D.eqb_iff a b, D.eqbs_iff as bs]
end
instance : DecidableEq D := fun a b => if h : D.eqb a b = true then isTrue ((D.eqb_iff a b).mp h) else isFalse fun e => h ((D.eqb_iff a b).mpr e)
instance : Inhabited D := ⟨.non⟩
inductive O where
  | lst (ds : List D)
  | fro (ds : List D)
  | dic (kvs : List (D × D))
  | ins (c : Nat) (fs : List (Nat × D))
abbrev Store := List O
abbrev Env := List (Option D)
structure Exc where
  cls : Nat
  fs : List (Nat × D)
inductive Op where
  | add | sub | mul | fdiv | mod | pow
inductive Cm where
  | eq | ne | lt | le | gt | ge | inn | nin | isb | nsb | deq
  deriving DecidableEq
inductive Ty where
  | int | str | bool | tuple | list | dict | own (c : Nat)
  deriving DecidableEq
inductive Pr where
  | len | int | str | abs | max2 | min2 | tuple | list | any | all | sum | max | min | bool
  deriving DecidableEq
inductive Me where
  | append | pop | popAt | insert | extend | reverse | clear | index | get1 | get2 | setdefault | split | join | upper | sindex | starts | scount
  deriving DecidableEq
inductive Tg where
  | nm (i : Nat) | tp (is : List Nat)
mutual
inductive E where
  | var (i : Nat) | con (d : D) | glo (g : Nat)
  | bin (o : Op) (a b : E) | neg (a : E)
  | cmp (o : Cm) (a b : E) | chain (o o' : Cm) (a b c : E)
  | isN (a : E) | notN (a : E)
  | and (a b : E) | or (a b : E) | not (a : E)
  | ife (c a b : E)
  | call (f : Nat) (as : A) (df : List D)
  | make (c f : Nat) (as : A)
  | meth (alts : List (Nat × Nat)) (o : E) (as : A)
  | fld (f : Nat) (o : E)
  | pr (p : Pr) (as : A)
  | me (m : Me) (o : E) (as : A)
  | isi (a : E) (ts : List Ty)
  | idx (a b : E) | sli (a lo hi : E) | abs0
  | tup (as : A) | lst (as : A) | dic (as : A)
  | comp (elt : E) (tg : Tg) (it : E) (cs : A) (own : List Nat)
  | dcomp (k v : E) (tg : Tg) (it : E) (cs : A) (own : List Nat)
  | rng1 (a : E) | rng2 (a b : E) | enm (a : E) | zip (a b : E)
  | fstr (as : A)
  | tv (a : E) | sq (a : E)
  | efld (f : Nat) | eisi (cs : List (Option Nat))
  | rvl (a : E) | rev (a : E)
  | eqo (c f : Nat) (a b : E)
  | bad
inductive A where
  | nil | cons (e : E) (as : A)
end
mutual
inductive S where
  | asg (tg : Tg) (e : E) | asg2 (i j : Nat) (a b : E)
  | setf (o : E) (f : Nat) (e : E) | seti (o i e : E)
  | augn (i : Nat) (op : Op) (e : E) | augf (o : E) (f : Nat) (op : Op) (e : E)
  | exp (e : E) | ret (e : E) | retN
  | ifS (c : E) (a b : B) | forS (tg : Tg) (it : E) (b : B) | whl (c : E) (b : B)
  | brk | cnt | pas
  | rais (c : Nat) (as : A) | tryS (b : B) (hs : Hs) | del (o i : E) | bad
inductive B where
  | nil | cons (s : S) (b : B)
inductive Hs where
  | nil | cons (c : Nat) (nm : Option Nat) (b : B) (hs : Hs)
end
structure Fn where
  np : Nat
  ns : Nat
  body : B
structure Tab where
  fn : Nat → Option Fn
  glo : Nat → Option D
  kon : Nat → List (List Nat × D)
  exf : Nat → Option (Option Nat)
  sub : Nat → Nat → Bool
abbrev QE := D → Store → Prop
abbrev QX := Exc → Store → Prop
abbrev Calls := Nat → List D → Store → QE → QX → Prop
structure K where
  nx : Env → Store → Prop
  rt : D → Store → Prop
  bk : Env → Store → Prop
  ct : Env → Store → Prop
  xc : Exc → Env → Store → Prop
abbrev line : Nat := sizeLine
def decI (i : Int) : List Nat := (Str.ofString (toString i)).cps.toList
def getV (env : Env) (i : Nat) (Q : D → Prop) : Prop := match env[i]? with
  | some (some d) => Q d
  | _ => False
def seqOf (st : Store) : D → Option (List D)
  | .tup ds => some ds
  | .ref h => match st[h]? with
    | some (.lst ds) => some ds
    | some (.fro ds) => some ds
    | _ => none
  | _ => none
def ixOf (n : Nat) (i : Int) : Option Nat := if 0 ≤ i then (if i < n then some i.toNat else none) else if -(n : Int) ≤ i then some (i + n).toNat else none
abbrev cutIx : Nat → Nat → Option Int → Nat := HT.sIx
def cutL {α : Type} (xs : List α) (lo hi : Option Int) : List α := (xs.drop (cutIx xs.length 0 lo)).take (cutIx xs.length xs.length hi - cutIx xs.length 0 lo)
def toP : Nat → Store → D → Option PyData
  | _, _, .non => some .none
  | _, _, .bl b => some (.bool b)
  | _, _, .int i => some (.int i)
  | _, _, .str x => if (x.all fun c => decide (c < 1114112)) = true then some (.str ⟨x.toArray⟩) else none
  | 0, _, _ => none
  | n + 1, st, .tup ds => (ds.mapM (toP n st)).map .tuple
  | n + 1, st, .ref h => match st[h]? with
    | some (.lst ds) => (ds.mapM (toP n st)).map .list
    | some (.fro ds) => (ds.mapM (toP n st)).map .list
    | _ => none
  | _, _, .kon _ => none
def eqQ (st : Store) : D → D → (Bool → Prop) → Prop
  | .int a, .int b, Q => Q (decide (a = b))
  | .str a, .str b, Q => Q (decide (a = b))
  | .bl a, .bl b, Q => Q (decide (a = b))
  | .non, .non, Q => Q true
  | .non, .int _, Q => Q false
  | .int _, .non, Q => Q false
  | .non, .str _, Q => Q false
  | .str _, .non, Q => Q false
  | .int _, .str _, Q => Q false
  | .str _, .int _, Q => Q false
  | x, y, Q => ∃ d e, toP 60 st x = some d ∧ toP 60 st y = some e ∧ Q (PyData.eqv d e)
def flatD : D → Bool
  | .non => true | .bl _ => true | .int _ => true | .str _ => true
  | _ => false
def eqD : D → D → Bool
  | .int a, .int b => decide (a = b)
  | .str a, .str b => decide (a = b)
  | .non, .non => true
  | .bl a, .bl b => a == b
  | .bl a, .int b => (if a then 1 else 0) == b
  | .int a, .bl b => a == (if b then 1 else 0)
  | _, _ => false
def inD (x : D) (xs : List D) : Bool := xs.any fun y => eqD y x
def keyD : D → Bool
  | .int _ => true | .str _ => true
  | _ => false
def getK (kvs : List (D × D)) (k : D) : Option D := (kvs.find? fun p => decide (p.1 = k)).map (·.2)
def putK (kvs : List (D × D)) (k v : D) : List (D × D) := if (getK kvs k).isSome then kvs.map fun p => if p.1 = k then (p.1, v) else p else kvs ++ [(k, v)]
def mergeD (ps : List (D × D)) : List (D × D) := ps.foldl (fun acc p => putK acc p.1 p.2) []
def dropK (kvs : List (D × D)) (k : D) : List (D × D) := kvs.filter fun p => decide (p.1 ≠ k)
def getC (kvs : List (List Nat × D)) (k : D) : Option D := match k with
  | .str x => (kvs.find? fun p => decide (p.1 = x)).map (·.2)
  | _ => none
inductive EqR (st : Store) : Nat → D → D → Bool → Prop
  | flat {n : Nat} {x y : D} : flatD x = true → flatD y = true → EqR st n x y (eqD x y)
  | same {n h : Nat} : EqR st n (.ref h) (.ref h) true
  | tups {n : Nat} {xs ys : List D} {e : Nat → Bool} : (∀ j (h1 : j < xs.length) (h2 : j < ys.length), EqR st n xs[j] ys[j] (e j)) → EqR st (n + 1) (.tup xs) (.tup ys) ((List.range (min xs.length ys.length)).all e && xs.length == ys.length)
  | lsts {n h g : Nat} {xs ys : List D} {e : Nat → Bool} : h ≠ g → st[h]? = some (.lst xs) → st[g]? = some (.lst ys) → xs.length = ys.length → (∀ j (h1 : j < xs.length) (h2 : j < ys.length), EqR st n xs[j] ys[j] (e j)) → EqR st (n + 1) (.ref h) (.ref g) ((List.range xs.length).all e)
  | lens {n h g : Nat} {xs ys : List D} : h ≠ g → st[h]? = some (.lst xs) → st[g]? = some (.lst ys) → xs.length ≠ ys.length → EqR st (n + 1) (.ref h) (.ref g) false
  | dics {n h g : Nat} {ks ls : List (D × D)} {e : D → Bool} : h ≠ g → st[h]? = some (.dic ks) → st[g]? = some (.dic ls) → (∀ p ∈ ks, ∀ u, getK ls p.1 = some u → EqR st n p.2 u (e p.1)) → EqR st (n + 1) (.ref h) (.ref g) (ks.length == ls.length && ks.all fun p => (getK ls p.1).isSome && e p.1)
def twoD : D → D → Bool
  | .tup _, .tup _ => true
  | .ref h, .ref g => decide (h ≠ g)
  | _, _ => false
def inQ (T : Tab) (st : Store) : D → D → (Bool → Prop) → Prop
  | .str a, .str b, Q => Q (!(Builtin.Str.occurrences ⟨b.toArray⟩ ⟨a.toArray⟩ 0 b.length 1).isEmpty)
  | x, .kon k, Q => T.kon k ≠ [] ∧ ∃ a, x = .str a ∧ Q (getC (T.kon k) x).isSome
  | x, .tup ds, Q => flatD x = true ∧ ds.all flatD = true ∧ Q (inD x ds)
  | x, .ref h, Q => match st[h]? with
    | some (.lst ds) => flatD x = true ∧ ds.all flatD = true ∧ Q (inD x ds)
    | some (.dic kvs) => keyD x = true ∧ Q (getK kvs x).isSome
    | _ => False
  | _, _, _ => False
def cmpQ (T : Tab) (st : Store) (o : Cm) (x y : D) (Q : Bool → Prop) : Prop :=
  match o with
  | .eq => eqQ st x y Q
  | .ne => eqQ st x y fun b => Q (!b)
  | .inn => inQ T st x y Q
  | .nin => inQ T st x y fun b => Q (!b)
  | .lt => match x, y with
    | .int a, .int b => Q (decide (a < b))
    | _, _ => False
  | .le => match x, y with
    | .int a, .int b => Q (decide (a ≤ b))
    | _, _ => False
  | .gt => match x, y with
    | .int a, .int b => Q (decide (b < a))
    | _, _ => False
  | .ge => match x, y with
    | .int a, .int b => Q (decide (b ≤ a))
    | _, _ => False
  | .isb => match x, y with
    | .bl a, .bl b => Q (decide (a = b))
    | _, _ => False
  | .nsb => match x, y with
    | .bl a, .bl b => Q (!decide (a = b))
    | _, _ => False
  | .deq => twoD x y = true ∧ ∃ n b, n ≤ 60 ∧ EqR st n x y b ∧ Q b
def eiB (T : Tab) (c : Nat) : Option Nat → Bool
  | none => true
  | some d => T.sub c d
def binQ (st : Store) (o : Op) (x y : D) (Q : QE) : Prop :=
  match o, x, y with
  | .add, .int a, .int b => Q (.int (a + b)) st
  | .add, .str a, .str b => a.length + b.length ≤ line ∧ Q (.str (a ++ b)) st
  | .add, .tup a, .tup b => a.length + b.length ≤ line ∧ Q (.tup (a ++ b)) st
  | .add, .ref h, .ref g => (match st[h]?, st[g]? with
    | some (.lst a), some (.lst b) => a.length + b.length ≤ line ∧ Q (.ref st.length) (st ++ [.lst (a ++ b)])
    | _, _ => False)
  | .sub, .int a, .int b => Q (.int (a - b)) st
  | .mul, .int a, .int b => ((-(2 ^ 64) < a ∧ a < 2 ^ 64) ∨ (-(2 ^ 64) < b ∧ b < 2 ^ 64)) ∧ Q (.int (a * b)) st
  | .mul, .tup a, .int k => -(2 ^ 63) ≤ k ∧ k < 2 ^ 63 ∧ a.length * k.toNat ≤ line ∧ Q (.tup (List.replicate k.toNat a).flatten) st
  | .mul, .str a, .int k => -(2 ^ 63) ≤ k ∧ k < 2 ^ 63 ∧ a.length * k.toNat ≤ line ∧ Q (.str (List.replicate k.toNat a).flatten) st
  | .mul, .ref h, .int k => (match st[h]? with
    | some (.lst a) => -(2 ^ 63) ≤ k ∧ k < 2 ^ 63 ∧ a.length * k.toNat ≤ line ∧ Q (.ref st.length) (st ++ [.lst (List.replicate k.toNat a).flatten])
    | _ => False)
  | .fdiv, .int a, .int b => 0 < b ∧ b < 1073741824 ∧ Q (.int (a / b)) st
  | .mod, .int a, .int b => 0 < b ∧ Q (.int (a % b)) st
  | .pow, .int a, .int b => 0 ≤ b ∧ b ≤ 1000000 ∧ a.natAbs < 2 ^ 64 ∧ Q (.int (a ^ b.toNat)) st
  | _, _, _ => False
def truQ (st : Store) (x : D) (Q : Bool → Prop) : Prop :=
  match x with
  | .non => Q false
  | .bl b => Q b
  | .int i => Q (i != 0)
  | .str x => x.length ≤ line ∧ Q (!x.isEmpty)
  | .tup ds => Q (!ds.isEmpty)
  | .ref h => (match st[h]? with
    | some (.lst ds) => Q (!ds.isEmpty)
    | _ => False)
  | .kon _ => False
def tyOf (st : Store) : D → Option Ty
  | .bl _ => some .bool
  | .int _ => some .int
  | .str _ => some .str
  | .tup _ => some .tuple
  | .non => none
  | .kon _ => some .dict
  | .ref h => match st[h]? with
    | some (.lst _) => some .list
    | some (.fro _) => some .list
    | some (.dic _) => some .dict
    | some (.ins c _) => some (.own c)
    | none => none
def isTy (T : Tab) : Option Ty → Ty → Bool
  | none, _ => false
  | some .bool, t => decide (t = .bool) || decide (t = .int)
  | some (.own c), .own d => T.sub c d
  | some a, t => decide (a = t)
def hasTy (st : Store) : D → Bool
  | .ref h => (st[h]?).isSome
  | .kon _ => false
  | _ => true
def meT : Me → Ty
  | .split => .str | .join => .str | .upper => .str | .sindex => .str | .starts => .str | .scount => .str
  | .get1 => .dict | .get2 => .dict | .setdefault => .dict
  | _ => .list
def meOk (m : Me) (st : Store) : D → Prop
  | .str _ => meT m = .str
  | .ref h => (match st[h]? with
    | some (.lst _) => meT m = .list
    | some (.dic _) => meT m = .dict
    | _ => False)
  | _ => False
def prQ (p : Pr) (ds : List D) (st : Store) (Q : QE) : Prop :=
  match p, ds with
  | .len, [.str x] => x.length ≤ line ∧ Q (.int x.length) st
  | .len, [.tup xs] => Q (.int xs.length) st
  | .len, [.ref h] => (match st[h]? with
    | some (.lst xs) => Q (.int xs.length) st
    | some (.fro xs) => Q (.int xs.length) st
    | some (.dic kvs) => Q (.int kvs.length) st
    | _ => False)
  | .int, [.int i] => Q (.int i) st
  | .int, [.bl b] => Q (.int (if b then 1 else 0)) st
  | .int, [.str x] => ∃ n, PySem.intText? ⟨x.toArray⟩ = some n ∧ x.length ≤ 640 ∧ Q (.int n) st
  | .str, [.int i] => i.natAbs.log2 < 1920 ∧ Q (.str (decI i)) st
  | .str, [.str x] => Q (.str x) st
  | .abs, [.int i] => Q (.int (if i < 0 then -i else i)) st
  | .max2, [.int i, .int j] => Q (.int (if j > i then j else i)) st
  | .min2, [.int i, .int j] => Q (.int (if j < i then j else i)) st
  | .tuple, [.tup xs] => Q (.tup xs) st
  | .tuple, [.ref h] => (match st[h]? with
    | some (.lst xs) => Q (.tup xs) st
    | some (.fro xs) => Q (.tup xs) st
    | _ => False)
  | .list, [.tup xs] => Q (.ref st.length) (st ++ [.lst xs])
  | .list, [.ref h] => (match st[h]? with
    | some (.lst xs) => Q (.ref st.length) (st ++ [.lst xs])
    | some (.fro xs) => Q (.ref st.length) (st ++ [.lst xs])
    | _ => False)
  | .any, [.ref h] => (match st[h]? with
    | some (.lst xs) => ∃ bs : List Bool, xs = bs.map D.bl ∧ Q (.bl (bs.any id)) st
    | _ => False)
  | .all, [.ref h] => (match st[h]? with
    | some (.lst xs) => ∃ bs : List Bool, xs = bs.map D.bl ∧ Q (.bl (bs.all id)) st
    | _ => False)
  | .bool, [.int i] => Q (.bl (i != 0)) st
  | .bool, [.bl b] => Q (.bl b) st
  | _, _ => False
def meQ (m : Me) (x : D) (ds : List D) (st : Store) (Q : QE) : Prop :=
  match m, x, ds with
  | .append, .ref h, [d] => (match st[h]? with
    | some (.lst xs) => xs.length < line ∧ Q .non (st.set h (.lst (xs ++ [d])))
    | _ => False)
  | .pop, .ref h, [] => (match st[h]? with
    | some (.lst xs) => ∃ d, xs[xs.length - 1]? = some d ∧ Q d (st.set h (.lst xs.dropLast))
    | _ => False)
  | .reverse, .ref h, [] => (match st[h]? with
    | some (.lst xs) => Q .non (st.set h (.lst xs.reverse))
    | _ => False)
  | .clear, .ref h, [] => (match st[h]? with
    | some (.lst _) => Q .non (st.set h (.lst []))
    | _ => False)
  | .split, .str a, [.str b] => b.length ≠ 0 ∧ a.length + 2 ≤ line ∧ Q (.ref st.length) (st ++ [.lst ((Txt.split ⟨a.toArray⟩ ⟨b.toArray⟩).map fun z => .str z.cps.toList)])
  | .join, .str a, [d] => ∃ ys : List (List Nat), seqOf st d = some (ys.map D.str) ∧ (ys.map List.length).sum + ys.length * a.length ≤ 16777216 ∧
      Q (.str (Txt.join ⟨a.toArray⟩ (ys.map fun y => ⟨y.toArray⟩)).cps.toList) st
  | .pop, .ref h, [.int i] => (match st[h]? with
    | some (.lst (x :: xs)) => i = 0 ∧ Q x (st.set h (.lst xs))
    | _ => False)
  | .get2, .ref h, [k, d] => (match st[h]? with
    | some (.dic kvs) => keyD k = true ∧ Q ((getK kvs k).getD d) st
    | _ => False)
  | .get1, .ref h, [k] => (match st[h]? with
    | some (.dic kvs) => keyD k = true ∧ Q ((getK kvs k).getD .non) st
    | _ => False)
  | .insert, .ref h, [.int i, d] => (match st[h]? with
    | some (.lst xs) => xs.length < line ∧ (0 ≤ i ∧ i < 2 ^ 63) ∧ Q .non (st.set h (.lst (xs.take i.toNat ++ [d] ++ xs.drop i.toNat)))
    | _ => False)
  | .upper, .str a, [] => a.length ≤ 5592405 ∧ Q (.str (Txt.upper ⟨a.toArray⟩).cps.toList) st
  | .sindex, .str a, [.str b] => ∃ i r, Builtin.Str.occurrences ⟨a.toArray⟩ ⟨b.toArray⟩ 0 a.length 1 = i :: r ∧ Q (.int (i : Nat)) st
  | .starts, .str a, [.str b] => Q (.bl (Txt.startswith ⟨a.toArray⟩ ⟨b.toArray⟩)) st
  | .scount, .str a, [.str b] => Q (.int (Txt.count ⟨a.toArray⟩ ⟨b.toArray⟩)) st
  | _, _, _ => False
def fmtQ (x : D) (Q : List Nat → Prop) : Prop :=
  match x with
  | .str y => y.length ≤ line ∧ Q y
  | .int i => i.natAbs.log2 < 1920 ∧ Q (decI i)
  | _ => False
def idxQ (T : Tab) (st : Store) (x i : D) (Q : QE) : Prop :=
  match x, i with
  | .str z, .int i => z.length ≤ line ∧ (match ixOf z.length i with
    | some j => ∃ c, z[j]? = some c ∧ Q (.str [c]) st
    | none => False)
  | .tup xs, .int i => (match ixOf xs.length i with
    | some j => ∃ c, xs[j]? = some c ∧ Q c st
    | none => False)
  | .kon k, y => ∃ v, getC (T.kon k) y = some v ∧ Q v st
  | .ref h, y => (match st[h]? with
    | some (.lst xs) => ∃ i, y = .int i ∧ (match ixOf xs.length i with
      | some j => ∃ c, xs[j]? = some c ∧ Q c st
      | none => False)
    | some (.fro xs) => ∃ i, y = .int i ∧ (match ixOf xs.length i with
      | some j => ∃ c, xs[j]? = some c ∧ Q c st
      | none => False)
    | some (.dic kvs) => keyD y = true ∧ ∃ c, getK kvs y = some c ∧ Q c st
    | _ => False)
  | _, _ => False
def partQ (d : D) (Q : Option Int → Prop) : Prop :=
  match d with
  | .int i => Q (some i)
  | .non => Q none
  | _ => False
def sliQ (st : Store) (x : D) (lo hi : Option Int) (Q : QE) : Prop :=
  match x with
  | .str z => z.length ≤ line ∧ Q (.str (cutL z lo hi)) st
  | .tup xs => Q (.tup (cutL xs lo hi)) st
  | .ref h => (match st[h]? with
    | some (.lst xs) => Q (.ref st.length) (st ++ [.lst (cutL xs lo hi)])
    | some (.fro xs) => Q (.ref st.length) (st ++ [.lst (cutL xs lo hi)])
    | _ => False)
  | _ => False
def setQ (st : Store) (x i v : D) (Q : Store → Prop) : Prop :=
  match x with
  | .ref h => (match st[h]? with
    | some (.lst xs) => ∃ k j, i = .int k ∧ ixOf xs.length k = some j ∧ Q (st.set h (.lst (xs.set j v)))
    | some (.dic kvs) => keyD i = true ∧ kvs.length < line ∧ Q (st.set h (.dic (putK kvs i v)))
    | _ => False)
  | _ => False
def pairsOf : List D → Option (List (D × D))
  | [] => some []
  | k :: v :: r => (pairsOf r).map fun ps => (k, v) :: ps
  | [_] => none
def dispQ (st : Store) (h : Nat) (ds : List D) (Q : QE) : Prop := match pairsOf ds, st[h]? with
  | some ps, some (.dic []) => (ps.all fun p => keyD p.1) = true ∧ ps.length ≤ 15 ∧ Q (.ref h) (st.set h (.dic (mergeD ps)))
  | _, _ => False
inductive J where
  | lst (h : Nat)
  | seq (ds : List D)
  | enm (h : Nat)
  | zip (h g : Nat)
  | rev (h n : Nat)
def J.at (j : J) (i : Nat) (st : Store) : Option (Option D) :=
  match j with
  | .lst h => match st[h]? with
    | some (.lst ds) => some ds[i]?
    | some (.fro ds) => some ds[i]?
    | _ => none
  | .seq ds => some ds[i]?
  | .enm h => match st[h]? with
    | some (.lst ds) => some (ds[i]?.map fun d => .tup [.int i, d])
    | some (.fro ds) => some (ds[i]?.map fun d => .tup [.int i, d])
    | _ => none
  | .zip h g => match st[h]?, st[g]? with
    | some (.lst xs), some (.lst ys) => match xs[i]?, ys[i]? with
      | some x, some y => some (some (.tup [x, y]))
      | _, _ => some none
    | _, _ => none
  | .rev h n => match st[h]? with
    | some (.lst ds) => if ds.length = n then (if i < n then some ds[n - 1 - i]? else some none) else none
    | some (.fro ds) => if ds.length = n then (if i < n then some ds[n - 1 - i]? else some none) else none
    | _ => none
def bindT (tg : Tg) (d : D) (env : Env) : Option Env :=
  match tg, d with
  | .nm i, d => some (env.set i (some d))
  | .tp is, .tup ds => if ds.length = is.length then some ((is.zip ds).foldl (fun e p => e.set p.1 (some p.2)) env) else none
  | _, _ => none
def forN (j : J) (tg : Tg) (body : Env → Store → K → Prop) (k : K) : Nat → Nat → Env → Store → Prop
  | 0, _, _, _ => False
  | n + 1, i, env, st => match j.at i st with
    | none => False
    | some none => k.nx env st
    | some (some d) => match bindT tg d env with
      | none => False
      | some env' => body env' st { k with nx := forN j tg body k n (i + 1), ct := forN j tg body k n (i + 1), bk := k.nx }
def whlN (c : Env → Store → (Bool → Store → Prop) → Prop) (body : Env → Store → K → Prop) (k : K) : Nat → Env → Store → Prop
  | 0, _, _ => False
  | n + 1, env, st => c env st fun b st1 => if b = true then body env st1 { k with nx := whlN c body k n, ct := whlN c body k n, bk := k.nx } else k.nx env st1
def wipeE (env : Env) : List Nat → Env
  | [] => env
  | v :: vs => (wipeE env vs).set v none
def cmpN (j : J) (tg : Tg) (tests : Env → Store → (Bool → Store → Prop) → Prop) (elt : Env → Store → QE → Prop) (h : Nat) (Q : QE) : Nat → Nat → Env → Store → Prop
  | 0, _, _, _ => False
  | n + 1, i, env, st => match j.at i st with
    | none => False
    | some none => Q (.ref h) st
    | some (some d) => match bindT tg d env with
      | none => False
      | some env' => tests env' st fun b st1 => if b = true then elt env' st1 fun y st2 => (match st2[h]? with
          | some (.lst acc) => acc.length < line ∧ cmpN j tg tests elt h Q n (i + 1) env (st2.set h (.lst (acc ++ [y])))
          | _ => False) else cmpN j tg tests elt h Q n (i + 1) env st1
def dcmN (j : J) (tg : Tg) (tests : Env → Store → (Bool → Store → Prop) → Prop) (kx vx : Env → Store → QE → Prop) (h : Nat) (Q : QE) : Nat → Nat → Env → Store → Prop
  | 0, _, _, _ => False
  | n + 1, i, env, st => match j.at i st with
    | none => False
    | some none => Q (.ref h) st
    | some (some d) => match bindT tg d env with
      | none => False
      | some env' => tests env' st fun b st1 => if b = true then kx env' st1 fun x st2 => vx env' st2 fun y st3 => (match st3[h]? with
          | some (.dic kvs) => keyD x = true ∧ kvs.length < line ∧ dcmN j tg tests kx vx h Q n (i + 1) env (st3.set h (.dic (putK kvs x y)))
          | _ => False) else dcmN j tg tests kx vx h Q n (i + 1) env st1
def fldQ (st : Store) (x : D) (f : Nat) (Q : QE) : Prop :=
  match x with
  | .ref h => (match st[h]? with
    | some (.ins _ fs) => (match fs.lookup f with
      | some d => Q d st
      | none => False)
    | _ => False)
  | _ => False
def putF (f : Nat) (d : D) : List (Nat × D) → List (Nat × D)
  | [] => [(f, d)]
  | p :: r => if p.1 = f then (f, d) :: r else p :: putF f d r
def setfQ (st : Store) (x : D) (f : Nat) (v : D) (Q : Store → Prop) : Prop :=
  match x with
  | .ref h => (match st[h]? with
    | some (.ins c fs) => fs.length < 1000 ∧ Q (st.set h (.ins c (putF f v fs)))
    | _ => False)
  | _ => False
def clsOf (st : Store) : D → Option Nat
  | .ref h => (match st[h]? with
    | some (.ins c _) => some c
    | _ => none)
  | _ => none
def othB (st : Store) (c : Nat) : D → Bool
  | .non => true | .int _ => true | .str _ => true | .tup _ => true
  | .ref h => (match st[h]? with
    | some (.lst _) => true
    | some (.ins c' _) => decide (c' = c)
    | _ => false)
  | _ => false
def walkQ (st : Store) (x : D) (R : J → Prop) : Prop :=
  match x with
  | .tup ds => R (.seq ds)
  | .str z => R (.seq (z.map fun c => .str [c]))
  | .ref h => (match st[h]? with
    | some (.lst _) => R (.lst h)
    | some (.fro _) => R (.lst h)
    | _ => False)
  | _ => False
def enmQ (st : Store) (x : D) (R : J → Prop) : Prop :=
  match x with
  | .ref h => (match st[h]? with
    | some (.lst _) => R (.enm h)
    | some (.fro _) => R (.enm h)
    | _ => False)
  | _ => False
def zipQ (st : Store) (x y : D) (R : J → Prop) : Prop :=
  match x, y with
  | .tup a, .tup b => R (.seq (List.zipWith (fun u v => .tup [u, v]) a b))
  | .str z, .tup b => R (.seq (List.zipWith (fun u v => .tup [u, v]) (z.map fun c => .str [c]) b))
  | .ref h, .ref g => (match st[h]?, st[g]? with
    | some (.lst _), some (.lst _) => R (.zip h g)
    | _, _ => False)
  | _, _ => False
def revQ (st : Store) (x : D) (R : J → Prop) : Prop :=
  match x with
  | .ref h => (match st[h]? with
    | some (.lst ds) => R (.rev h ds.length)
    | some (.fro ds) => R (.rev h ds.length)
    | _ => False)
  | _ => False
def rvlQ (st : Store) (x : D) (Q : QE) : Prop :=
  match x with
  | .ref h => (match st[h]? with
    | some (.lst ds) => Q (.ref st.length) (st ++ [.lst ds.reverse])
    | some (.fro ds) => Q (.ref st.length) (st ++ [.lst ds.reverse])
    | _ => False)
  | _ => False
def rngD (lo : Int) (n : Nat) : List D := (List.range n).map fun (i : Nat) => D.int (lo + i)
def unset (nm : Option Nat) (env : Env) : Env :=
  match nm with
  | some i => env.set i none
  | none => env
section
variable (T : Tab) (C : Calls) (hx : Option Exc)
mutual
def wpE : E → Env → Store → QE → QX → Prop
  | .var i, env, st, Q, _ => getV env i fun d => Q d st
  | .con d, _, st, Q, _ => Q d st
  | .glo g, _, st, Q, _ => (match T.glo g with
    | some d => Q d st
    | none => False)
  | .bin o a b, env, st, Q, X => wpE a env st (fun x s1 => wpE b env s1 (fun y s2 => binQ s2 o x y Q) X) X
  | .neg a, env, st, Q, X => wpE a env st (fun x s1 => (match x with
    | .int i => Q (.int (-i)) s1
    | _ => False)) X
  | .cmp o a b, env, st, Q, X => wpE a env st (fun x s1 => wpE b env s1 (fun y s2 => cmpQ T s2 o x y fun b => Q (.bl b) s2) X) X
  | .chain o o' a b c, env, st, Q, X => wpE a env st (fun x s1 => wpE b env s1 (fun y s2 => cmpQ T s2 o x y fun k => if k = true then wpE c env s2 (fun z s3 => cmpQ T s3 o' y z fun b => Q (.bl b) s3) X else Q (.bl false) s2) X) X
  | .isN a, env, st, Q, X => wpE a env st (fun x s1 => Q (.bl (decide (x = .non))) s1) X
  | .notN a, env, st, Q, X => wpE a env st (fun x s1 => Q (.bl (!decide (x = .non))) s1) X
  | .and a b, env, st, Q, X => wpE a env st (fun x s1 => (match x with
    | .bl c => if c = true then wpE b env s1 Q X else Q (.bl false) s1
    | _ => False)) X
  | .or a b, env, st, Q, X => wpE a env st (fun x s1 => (match x with
    | .bl c => if c = true then Q (.bl true) s1 else wpE b env s1 Q X
    | _ => False)) X
  | .not a, env, st, Q, X => wpE a env st (fun x s1 => (match x with
    | .bl c => Q (.bl (!c)) s1
    | _ => False)) X
  | .ife c a b, env, st, Q, X => wpT c env st (fun k s1 => if k = true then wpE a env s1 Q X else wpE b env s1 Q X) X
  | .call f as df, env, st, Q, X => hx = none ∧ wpA as env st (fun ds s1 => C f (ds ++ df) s1 Q X) X
  | .make c f as, env, st, Q, X => hx = none ∧ wpA as env st (fun ds s1 => C f (.ref s1.length :: ds) (s1 ++ [.ins c []]) (fun d s2 => d = .non ∧ Q (.ref s1.length) s2) X) X
  | .meth alts o as, env, st, Q, X => hx = none ∧ wpE o env st (fun x s1 => (match x with
    | .ref h => (match s1[h]? with
      | some (.ins c fs) => (match alts.lookup c with
        | some f => wpA as env s1 (fun ds s2 => C f (x :: ds) s2 Q X) X
        | none => False)
      | _ => False)
    | _ => False)) X
  | .fld f o, env, st, Q, X => wpE o env st (fun x s1 => fldQ s1 x f Q) X
  | .pr p as, env, st, Q, X => hx = none ∧ wpA as env st (fun ds s1 => prQ p ds s1 Q) X
  | .me m o as, env, st, Q, X => wpE o env st (fun x s1 => meOk m s1 x ∧ wpA as env s1 (fun ds s2 => meQ m x ds s2 Q) X) X
  | .isi a ts, env, st, Q, X => wpE a env st (fun x s1 => hasTy s1 x = true ∧ Q (.bl (ts.any fun t => isTy T (tyOf s1 x) t)) s1) X
  | .idx a b, env, st, Q, X => wpE a env st (fun x s1 => wpE b env s1 (fun y s2 => idxQ T s2 x y Q) X) X
  | .sli a lo hi, env, st, Q, X => wpE a env st (fun x s1 => wpE lo env s1 (fun l s2 => partQ l fun l' => wpE hi env s2 (fun u s3 => partQ u fun u' => sliQ s3 x l' u' Q) X) X) X
  | .abs0, _, st, Q, _ => Q .non st
  | .tup as, env, st, Q, X => wpA as env st (fun ds s1 => Q (.tup ds) s1) X
  | .lst as, env, st, Q, X => wpA as env st (fun ds s1 => Q (.ref s1.length) (s1 ++ [.lst ds])) X
  | .comp elt tg it cs own, env, st, Q, X => hx = none ∧ wpI it env st (fun j s1 => ∃ n, cmpN j tg (fun e s P => wpTs cs e s P) (fun e s P => wpE elt e s P (fun _ _ => False)) s1.length Q n 0 (wipeE env own) (s1 ++ [.lst []])) X
  | .dic as, env, st, Q, X => wpA as env (st ++ [.dic []]) (fun ds s1 => dispQ s1 st.length ds Q) X
  | .dcomp kx vx tg it cs own, env, st, Q, X => hx = none ∧ wpI it env st (fun j s1 => ∃ n, dcmN j tg (fun e s P => wpTs cs e s P) (fun e s P => wpE kx e s P (fun _ _ => False)) (fun e s P => wpE vx e s P (fun _ _ => False)) s1.length Q n 0 (wipeE env own) (s1 ++ [.dic []])) X
  | .fstr as, env, st, Q, X => wpF as env st [] (fun y s1 => Q (.str y) s1) X
  | .efld f, _, st, Q, _ => (match hx with
    | some e => (match e.fs.lookup f with
      | some d => Q d st
      | none => False)
    | none => False)
  | .rvl a, env, st, Q, X => wpE a env st (fun x s1 => rvlQ s1 x Q) X
  | .eqo c f a b, env, st, Q, X => hx = none ∧ wpE a env st (fun x s1 => wpE b env s1 (fun y s2 => clsOf s2 x = some c ∧ othB s2 c y = true ∧ C f [x, y] s2 (fun d s3 => (∃ b, d = .bl b) ∧ Q d s3) (fun _ _ => False)) X) X
  | .eisi cs, _, st, Q, _ => (match hx with
    | some e => (match e.fs with
      | [] => Q (.bl (cs.any (eiB T e.cls))) st
      | _ => False)
    | none => False)
  | _, _, _, _, _ => False
def wpT : E → Env → Store → (Bool → Store → Prop) → QX → Prop
  | .cmp o a b, env, st, Q, X => wpE a env st (fun x s1 => wpE b env s1 (fun y s2 => cmpQ T s2 o x y fun k => Q k s2) X) X
  | .chain o o' a b c, env, st, Q, X => wpE a env st (fun x s1 => wpE b env s1 (fun y s2 => cmpQ T s2 o x y fun k => if k = true then wpE c env s2 (fun z s3 => cmpQ T s3 o' y z fun b => Q b s3) X else Q false s2) X) X
  | .isN a, env, st, Q, X => wpE a env st (fun x s1 => Q (decide (x = .non)) s1) X
  | .notN a, env, st, Q, X => wpE a env st (fun x s1 => Q (!decide (x = .non)) s1) X
  | .and a b, env, st, Q, X => wpT a env st (fun k s1 => if k = true then wpT b env s1 Q X else Q false s1) X
  | .or a b, env, st, Q, X => wpT a env st (fun k s1 => if k = true then Q true s1 else wpT b env s1 Q X) X
  | .not a, env, st, Q, X => wpT a env st (fun k s1 => Q (!k) s1) X
  | .tv e, env, st, Q, X => wpE e env st (fun x s1 => truQ s1 x fun k => Q k s1) X
  | _, _, _, _, _ => False
def wpA : A → Env → Store → (List D → Store → Prop) → QX → Prop
  | .nil, _, st, Q, _ => Q [] st
  | .cons e as, env, st, Q, X => wpE e env st (fun d s1 => wpA as env s1 (fun ds s2 => Q (d :: ds) s2) X) X
def wpF : A → Env → Store → List Nat → (List Nat → Store → Prop) → QX → Prop
  | .nil, _, st, acc, Q, _ => Q acc st
  | .cons e as, env, st, acc, Q, X => wpE e env st (fun d s1 => fmtQ d fun y => (acc ++ y).length ≤ line ∧ wpF as env s1 (acc ++ y) Q X) X
def wpTs : A → Env → Store → (Bool → Store → Prop) → Prop
  | .nil, _, st, Q => Q true st
  | .cons e .nil, env, st, Q => wpT e env st Q (fun _ _ => False)
  | _, _, _, _ => False
def wpI : E → Env → Store → (J → Store → Prop) → QX → Prop
  | .rng1 a, env, st, R, X => wpE a env st (fun x s1 => (match x with
    | .int n => -(2 ^ 62) ≤ n ∧ n < 2 ^ 62 ∧ R (.seq (rngD 0 n.toNat)) s1
    | _ => False)) X
  | .rng2 a b, env, st, R, X => wpE a env st (fun x s1 => wpE b env s1 (fun y s2 => (match x, y with
    | .int m, .int n => (-(2 ^ 62) ≤ m ∧ m < 2 ^ 62 ∧ -(2 ^ 62) ≤ n ∧ n < 2 ^ 62) ∧ R (.seq (rngD m (n - m).toNat)) s2
    | _, _ => False)) X) X
  | .enm a, env, st, R, X => wpE a env st (fun x s1 => enmQ s1 x fun j => R j s1) X
  | .rev a, env, st, R, X => wpE a env st (fun x s1 => revQ s1 x fun j => R j s1) X
  | .zip a b, env, st, R, X => wpE a env st (fun x s1 => wpE b env s1 (fun y s2 => zipQ s2 x y fun j => R j s2) X) X
  | .sq e, env, st, R, X => wpE e env st (fun x s1 => walkQ s1 x fun j => R j s1) X
  | _, _, _, _, _ => False
end
mutual
def wpS : Option Exc → S → Env → Store → K → Prop
  | hx, .asg tg e, env, st, k => (match tg with
    | .tp _ => hx = none
    | _ => True) ∧ wpE T C hx e env st (fun d s1 => (match bindT tg d env with
    | some env' => k.nx env' s1
    | none => False)) fun x s1 => k.xc x env s1
  | hx, .asg2 i j a b, env, st, k => hx = none ∧ wpE T C hx a env st (fun x s1 => wpE T C hx b env s1 (fun y s2 => k.nx ((env.set i (some x)).set j (some y)) s2) fun x s1 => k.xc x env s1) fun x s1 => k.xc x env s1
  | hx, .setf o f e, env, st, k => wpE T C hx e env st (fun v s1 => wpE T C hx o env s1 (fun x s2 => setfQ s2 x f v fun s3 => k.nx env s3) fun x s1 => k.xc x env s1) fun x s1 => k.xc x env s1
  | hx, .seti o i e, env, st, k => wpE T C hx e env st (fun v s1 => wpE T C hx o env s1 (fun x s2 => wpE T C hx i env s2 (fun y s3 => setQ s3 x y v fun s4 => k.nx env s4) fun x s1 => k.xc x env s1) fun x s1 => k.xc x env s1) fun x s1 => k.xc x env s1
  | hx, .augn i op e, env, st, k => getV env i fun x => wpE T C hx e env st (fun y s1 => (match op, x, y with
    | .add, .int a, .int b => k.nx (env.set i (some (.int (a + b)))) s1
    | .sub, .int a, .int b => k.nx (env.set i (some (.int (a - b)))) s1
    | _, _, _ => False)) fun x s1 => k.xc x env s1
  | hx, .augf o f op e, env, st, k => wpE T C hx o env st (fun x s1 => fldQ s1 x f fun v s1 => wpE T C hx e env s1 (fun y s2 => (match op, v, y with
    | .add, .int a, .int b => clsOf s2 x = clsOf s1 x ∧ setfQ s2 x f (.int (a + b)) fun s3 => k.nx env s3
    | .sub, .int a, .int b => clsOf s2 x = clsOf s1 x ∧ setfQ s2 x f (.int (a - b)) fun s3 => k.nx env s3
    | _, _, _ => False)) fun x s1 => k.xc x env s1) fun x s1 => k.xc x env s1
  | hx, .exp e, env, st, k => wpE T C hx e env st (fun _ s1 => k.nx env s1) fun x s1 => k.xc x env s1
  | hx, .ret e, env, st, k => wpE T C hx e env st (fun d s1 => k.rt d s1) fun x s1 => k.xc x env s1
  | _, .retN, _, st, k => k.rt .non st
  | hx, .ifS c a b, env, st, k => wpT T C hx c env st (fun t s1 => if t = true then wpB hx a env s1 k else wpB hx b env s1 k) fun x s1 => k.xc x env s1
  | hx, .forS tg it b, env, st, k => hx = none ∧ wpI T C hx it env st (fun j s1 => ∃ n, forN j tg (fun e s k' => wpB hx b e s k') k n 0 env s1) fun x s1 => k.xc x env s1
  | hx, .whl c b, env, st, k => hx = none ∧ ∃ n, whlN (fun e s P => wpT T C hx c e s P fun x s1 => k.xc x e s1) (fun e s k' => wpB hx b e s k') k n env st
  | _, .brk, env, st, k => k.bk env st
  | _, .cnt, env, st, k => k.ct env st
  | _, .pas, env, st, k => k.nx env st
  | hx, .rais c as, env, st, k => hx = none ∧ (match T.exf c, as with
    | some none, .nil => k.xc ⟨c, []⟩ env st
    | some (some f), .cons e .nil => wpE T C hx e env st (fun d s1 => k.xc ⟨c, [(f, d)]⟩ env s1) fun x s1 => k.xc x env s1
    | _, _ => False)
  | hx, .tryS b hs, env, st, k => hx = none ∧ wpB hx b env st { k with xc := fun e env' s' => wpH hs e env' s' k }
  | _, _, _, _, _ => False
def wpB : Option Exc → B → Env → Store → K → Prop
  | _, .nil, env, st, k => k.nx env st
  | hx, .cons s b, env, st, k => wpS hx s env st { k with nx := fun e s' => wpB hx b e s' k }
def wpH : Hs → Exc → Env → Store → K → Prop
  | .nil, e, env, st, k => k.xc e env st
  | .cons c nm b hs, e, env, st, k => if T.sub e.cls c = true then wpB (some e) b (unset nm env) st ⟨fun e' s' => k.nx (unset nm e') s', k.rt, fun _ _ => False, fun _ _ => False, fun _ _ _ => False⟩ else wpH hs e env st k
end
end
def Call (T : Tab) : Nat → Calls
  | 0, _, _, _, _, _ => False
  | n + 1, f, ds, st, Q, X => match T.fn f with
    | none => False
    | some fn => ds.length = fn.np ∧ wpB T (Call T n) none fn.body (ds.map some ++ List.replicate (fn.ns - fn.np) none) st ⟨fun _ s => Q .non s, Q, fun _ _ => False, fun _ _ => False, fun e _ s => X e s⟩
end Y
set_option linter.all false
set_option maxHeartbeats 4000000
namespace Y
open PySem
theorem getV_mono {env : Env} {i : Nat} {Q Q' : D → Prop} (h : ∀ d, Q d → Q' d) (q : getV env i Q) : getV env i Q' := by
  unfold getV at q ⊢
  split at q
  · exact h _ q
  · exact q.elim
theorem eqQ_mono {st : Store} {x y : D} {Q Q' : Bool → Prop} (h : ∀ b, Q b → Q' b) (q : eqQ st x y Q) : eqQ st x y Q' := by
  unfold eqQ at q ⊢
  split at q <;> first
    | exact h _ q
    | (obtain ⟨d, e, h1, h2, h3⟩ := q; exact ⟨d, e, h1, h2, h _ h3⟩)
theorem inQ_mono {T : Tab} {st : Store} {x y : D} {Q Q' : Bool → Prop} (h : ∀ b, Q b → Q' b) (q : inQ T st x y Q) : inQ T st x y Q' := by
  unfold inQ at q ⊢
  split at q
  · exact h _ q
  · obtain ⟨h0, a, e, q⟩ := q
    exact ⟨h0, a, e, h _ q⟩
  · exact ⟨q.1, q.2.1, h _ q.2.2⟩
  · split at q
    · exact ⟨q.1, q.2.1, h _ q.2.2⟩
    · exact ⟨q.1, h _ q.2⟩
    · exact q.elim
  · exact q.elim
theorem cmpQ_mono {T : Tab} {st : Store} {o : Cm} {x y : D} {Q Q' : Bool → Prop} (h : ∀ b, Q b → Q' b) (q : cmpQ T st o x y Q) : cmpQ T st o x y Q' := by
  cases o
  · exact eqQ_mono (x := x) (y := y) h q
  · exact eqQ_mono (x := x) (y := y) (fun b => h _) q
  all_goals first
    | exact inQ_mono (x := x) (y := y) h q
    | exact inQ_mono (x := x) (y := y) (fun b => h _) q
    | (obtain ⟨q0, n, b, q1, q2, q3⟩ := q
       exact ⟨q0, n, b, q1, q2, h _ q3⟩)
    | (unfold cmpQ at q ⊢
       dsimp only at q ⊢
       split at q
       · exact h _ q
       · exact q.elim)
theorem binQ_mono {st : Store} {o : Op} {x y : D} {Q Q' : QE} (h : ∀ d s, Q d s → Q' d s) (q : binQ st o x y Q) : binQ st o x y Q' := by
  unfold binQ at q ⊢
  split at q
  all_goals first
    | exact h _ _ q
    | exact ⟨q.1, h _ _ q.2⟩
    | exact ⟨q.1, q.2.1, h _ _ q.2.2⟩
    | exact ⟨q.1, q.2.1, q.2.2.1, h _ _ q.2.2.2⟩
    | (split at q
       · exact ⟨q.1, h _ _ q.2⟩
       · exact q.elim)
    | (split at q
       · exact ⟨q.1, q.2.1, q.2.2.1, h _ _ q.2.2.2⟩
       · exact q.elim)
    | exact q.elim
theorem truQ_mono {st : Store} {x : D} {Q Q' : Bool → Prop} (h : ∀ b, Q b → Q' b) (q : truQ st x Q) : truQ st x Q' := by
  unfold truQ at q ⊢
  split at q
  all_goals first
    | exact h _ q
    | exact ⟨q.1, h _ q.2⟩
    | (split at q
       · exact h _ q
       · exact q.elim)
    | exact q.elim
theorem prQ_mono {p : Pr} {ds : List D} {st : Store} {Q Q' : QE} (h : ∀ d s, Q d s → Q' d s) (q : prQ p ds st Q) : prQ p ds st Q' := by
  unfold prQ at q ⊢
  split at q
  all_goals first
    | exact h _ _ q
    | exact ⟨q.1, h _ _ q.2⟩
    | (obtain ⟨n, h1, h2, h3⟩ := q; exact ⟨n, h1, h2, h _ _ h3⟩)
    | (split at q <;> first
       | exact h _ _ q
       | (obtain ⟨n, h1, h2⟩ := q; exact ⟨n, h1, h _ _ h2⟩)
       | exact q.elim)
    | exact q.elim
theorem meQ_mono {m : Me} {x : D} {ds : List D} {st : Store} {Q Q' : QE} (h : ∀ d s, Q d s → Q' d s) (q : meQ m x ds st Q) : meQ m x ds st Q' := by
  unfold meQ at q ⊢
  split at q
  all_goals first
    | exact h _ _ q
    | exact ⟨q.1, h _ _ q.2⟩
    | exact ⟨q.1, q.2.1, h _ _ q.2.2⟩
    | (obtain ⟨n, r, h1, h2⟩ := q; exact ⟨n, r, h1, h _ _ h2⟩)
    | (obtain ⟨n, h1, h2, h3⟩ := q; exact ⟨n, h1, h2, h _ _ h3⟩)
    | (split at q <;> first
       | exact h _ _ q
       | exact ⟨q.1, h _ _ q.2⟩
       | exact ⟨q.1, q.2.1, h _ _ q.2.2⟩
       | (obtain ⟨n, h1, h2⟩ := q; exact ⟨n, h1, h _ _ h2⟩)
       | exact q.elim)
    | exact q.elim
theorem fmtQ_mono {x : D} {Q Q' : List Nat → Prop} (h : ∀ b, Q b → Q' b) (q : fmtQ x Q) : fmtQ x Q' := by
  unfold fmtQ at q ⊢
  split at q
  · exact ⟨q.1, h _ q.2⟩
  · exact ⟨q.1, h _ q.2⟩
  · exact q.elim
theorem idxQ_mono {T : Tab} {st : Store} {x i : D} {Q Q' : QE} (h : ∀ d s, Q d s → Q' d s) (q : idxQ T st x i Q) : idxQ T st x i Q' := by
  unfold idxQ at q ⊢
  split at q
  · refine ⟨q.1, ?_⟩
    have q2 := q.2
    split at q2
    · obtain ⟨c, h1, h2⟩ := q2
      exact ⟨c, h1, h _ _ h2⟩
    · exact q2.elim
  · split at q
    · obtain ⟨c, h1, h2⟩ := q
      exact ⟨c, h1, h _ _ h2⟩
    · exact q.elim
  · obtain ⟨v, h1, h2⟩ := q
    exact ⟨v, h1, h _ _ h2⟩
  · split at q
    · obtain ⟨i, e, q⟩ := q
      refine ⟨i, e, ?_⟩
      split at q
      · obtain ⟨c, h1, h2⟩ := q
        exact ⟨c, h1, h _ _ h2⟩
      · exact q.elim
    · obtain ⟨i, e, q⟩ := q
      refine ⟨i, e, ?_⟩
      split at q
      · obtain ⟨c, h1, h2⟩ := q
        exact ⟨c, h1, h _ _ h2⟩
      · exact q.elim
    · obtain ⟨q0, c, h1, h2⟩ := q
      exact ⟨q0, c, h1, h _ _ h2⟩
    · exact q.elim
  · exact q.elim
theorem dispQ_mono {st : Store} {i : Nat} {ds : List D} {Q Q' : QE} (h : ∀ d s, Q d s → Q' d s) (q : dispQ st i ds Q) : dispQ st i ds Q' := by
  unfold dispQ at q ⊢
  split at q
  · exact ⟨q.1, q.2.1, h _ _ q.2.2⟩
  · exact q.elim
theorem partQ_mono {d : D} {Q Q' : Option Int → Prop} (h : ∀ b, Q b → Q' b) (q : partQ d Q) : partQ d Q' := by
  unfold partQ at q ⊢
  split at q <;> first
    | exact h _ q
    | exact q.elim
theorem sliQ_mono {st : Store} {x : D} {lo hi : Option Int} {Q Q' : QE} (h : ∀ d s, Q d s → Q' d s) (q : sliQ st x lo hi Q) : sliQ st x lo hi Q' := by
  unfold sliQ at q ⊢
  split at q
  · exact ⟨q.1, h _ _ q.2⟩
  · exact h _ _ q
  · split at q <;> first
    | exact h _ _ q
    | exact q.elim
  · exact q.elim
theorem setQ_mono {st : Store} {x i v : D} {Q Q' : Store → Prop} (h : ∀ s, Q s → Q' s) (q : setQ st x i v Q) : setQ st x i v Q' := by
  unfold setQ at q ⊢
  split at q
  · split at q
    · obtain ⟨k, j, h1, h2, h3⟩ := q
      exact ⟨k, j, h1, h2, h _ h3⟩
    · exact ⟨q.1, q.2.1, h _ q.2.2⟩
    · exact q.elim
  · exact q.elim
theorem fldQ_mono {st : Store} {x : D} {f : Nat} {Q Q' : QE} (h : ∀ d s, Q d s → Q' d s) (q : fldQ st x f Q) : fldQ st x f Q' := by
  unfold fldQ at q ⊢
  split at q
  · split at q
    · split at q
      · exact h _ _ q
      · exact q.elim
    · exact q.elim
  · exact q.elim
theorem setfQ_mono {st : Store} {x : D} {f : Nat} {v : D} {Q Q' : Store → Prop} (h : ∀ s, Q s → Q' s) (q : setfQ st x f v Q) : setfQ st x f v Q' := by
  unfold setfQ at q ⊢
  split at q
  · split at q
    · exact ⟨q.1, h _ q.2⟩
    · exact q.elim
  · exact q.elim
theorem walkQ_mono {st : Store} {x : D} {R R' : J → Prop} (h : ∀ j, R j → R' j) (q : walkQ st x R) : walkQ st x R' := by
  unfold walkQ at q ⊢
  split at q
  · exact h _ q
  · exact h _ q
  · split at q <;> first
    | exact h _ q
    | exact q.elim
  · exact q.elim
theorem enmQ_mono {st : Store} {x : D} {R R' : J → Prop} (h : ∀ j, R j → R' j) (q : enmQ st x R) : enmQ st x R' := by
  unfold enmQ at q ⊢
  split at q
  · split at q <;> first
    | exact h _ q
    | exact q.elim
  · exact q.elim
theorem revQ_mono {st : Store} {x : D} {R R' : J → Prop} (h : ∀ j, R j → R' j) (q : revQ st x R) : revQ st x R' := by
  unfold revQ at q ⊢
  split at q
  · split at q
    · exact h _ q
    · exact h _ q
    · exact q.elim
  · exact q.elim
theorem rvlQ_mono {st : Store} {x : D} {Q Q' : QE} (h : ∀ d s, Q d s → Q' d s) (q : rvlQ st x Q) : rvlQ st x Q' := by
  unfold rvlQ at q ⊢
  split at q
  · split at q
    · exact h _ _ q
    · exact h _ _ q
    · exact q.elim
  · exact q.elim
theorem zipQ_mono {st : Store} {x y : D} {R R' : J → Prop} (h : ∀ j, R j → R' j) (q : zipQ st x y R) : zipQ st x y R' := by
  unfold zipQ at q ⊢
  split at q
  · exact h _ q
  · exact h _ q
  · split at q <;> first
    | exact h _ q
    | exact q.elim
  · exact q.elim
structure K.Le (k k' : K) : Prop where
  nx : ∀ e s, k.nx e s → k'.nx e s
  rt : ∀ d s, k.rt d s → k'.rt d s
  bk : ∀ e s, k.bk e s → k'.bk e s
  ct : ∀ e s, k.ct e s → k'.ct e s
  xc : ∀ x e s, k.xc x e s → k'.xc x e s
theorem K.Le.refl (k : K) : k.Le k := ⟨fun _ _ h => h, fun _ _ h => h, fun _ _ h => h, fun _ _ h => h, fun _ _ _ h => h⟩
theorem forN_mono {j : J} {tg : Tg} {body body' : Env → Store → K → Prop} {k k' : K} (hb : ∀ e s q q', q.Le q' → body e s q → body' e s q') (hk : k.Le k') : ∀ (n i : Nat) (env : Env) (st : Store), forN j tg body k n i env st → forN j tg body' k' n i env st
  | 0, _, _, _, h => h.elim
  | n + 1, i, env, st, h => by
    unfold forN at h ⊢
    split at h
    · exact h.elim
    · exact hk.nx _ _ h
    · split at h
      · exact h.elim
      · refine hb _ _ _ _ ?_ h
        exact ⟨fun e s => forN_mono hb hk n (i + 1) e s, hk.rt, hk.nx, fun e s => forN_mono hb hk n (i + 1) e s, hk.xc⟩
theorem whlN_mono {c c' : Env → Store → (Bool → Store → Prop) → Prop} {body body' : Env → Store → K → Prop} {k k' : K} (hc : ∀ e s P P', (∀ b s, P b s → P' b s) → c e s P → c' e s P') (hb : ∀ e s q q', q.Le q' → body e s q → body' e s q') (hk : k.Le k') :
    ∀ (n : Nat) (env : Env) (st : Store), whlN c body k n env st → whlN c' body' k' n env st
  | 0, _, _, h => h.elim
  | n + 1, env, st, h => by
    unfold whlN at h ⊢
    refine hc _ _ _ _ (fun b s q => ?_) h
    split at q
    · rename_i e
      rw [if_pos e]
      refine hb _ _ _ _ ?_ q
      exact ⟨fun e s => whlN_mono hc hb hk n e s, hk.rt, hk.nx, fun e s => whlN_mono hc hb hk n e s, hk.xc⟩
    · rename_i e
      rw [if_neg e]
      exact hk.nx _ _ q
theorem cmpN_mono {j : J} {tg : Tg} {tests tests' : Env → Store → (Bool → Store → Prop) → Prop} {elt elt' : Env → Store → QE → Prop} {h : Nat} {Q Q' : QE} (ht : ∀ e s P P', (∀ b s, P b s → P' b s) → tests e s P → tests' e s P')
    (he : ∀ e s P P', (∀ b s, P b s → P' b s) → elt e s P → elt' e s P') (hQ : ∀ d s, Q d s → Q' d s) : ∀ (n i : Nat) (env : Env) (st : Store), cmpN j tg tests elt h Q n i env st → cmpN j tg tests' elt' h Q' n i env st
  | 0, _, _, _, q => q.elim
  | n + 1, i, env, st, q => by
    unfold cmpN at q ⊢
    split at q
    · exact q.elim
    · exact hQ _ _ q
    · split at q
      · exact q.elim
      · refine ht _ _ _ _ (fun b s z => ?_) q
        cases b with
        | false =>
          rw [if_neg Bool.false_ne_true] at z ⊢
          exact cmpN_mono ht he hQ n (i + 1) _ _ z
        | true =>
          rw [if_pos rfl] at z ⊢
          refine he _ _ _ _ (fun y s2 z2 => ?_) z
          split at z2
          · exact ⟨z2.1, cmpN_mono ht he hQ n (i + 1) _ _ z2.2⟩
          · exact z2.elim
theorem dcmN_mono {j : J} {tg : Tg} {tests tests' : Env → Store → (Bool → Store → Prop) → Prop} {kx kx' vx vx' : Env → Store → QE → Prop} {h : Nat} {Q Q' : QE} (ht : ∀ e s P P', (∀ b s, P b s → P' b s) → tests e s P → tests' e s P')
    (hk : ∀ e s P P', (∀ b s, P b s → P' b s) → kx e s P → kx' e s P') (hv : ∀ e s P P', (∀ b s, P b s → P' b s) → vx e s P → vx' e s P') (hQ : ∀ d s, Q d s → Q' d s) : ∀ (n i : Nat) (env : Env) (st : Store), dcmN j tg tests kx vx h Q n i env st → dcmN j tg tests' kx' vx' h Q' n i env st
  | 0, _, _, _, q => q.elim
  | n + 1, i, env, st, q => by
    unfold dcmN at q ⊢
    split at q
    · exact q.elim
    · exact hQ _ _ q
    · split at q
      · exact q.elim
      · refine ht _ _ _ _ (fun b s z => ?_) q
        cases b with
        | false =>
          rw [if_neg Bool.false_ne_true] at z ⊢
          exact dcmN_mono ht hk hv hQ n (i + 1) _ _ z
        | true =>
          rw [if_pos rfl] at z ⊢
          refine hk _ _ _ _ (fun x s2 z2 => hv _ _ _ _ (fun y s3 z3 => ?_) z2) z
          split at z3
          · exact ⟨z3.1, z3.2.1, dcmN_mono ht hk hv hQ n (i + 1) _ _ z3.2.2⟩
          · exact z3.elim
def MonoC2 (C C' : Calls) : Prop := ∀ (f : Nat) (ds : List D) (st : Store) (Q Q' : QE) (X X' : QX), (∀ d s, Q d s → Q' d s) → (∀ x s, X x s → X' x s) → C f ds st Q X → C' f ds st Q' X'
abbrev MonoC (C : Calls) : Prop := MonoC2 C C
section
variable {T : Tab} {C C' : Calls} {hx : Option Exc} (hC : MonoC2 C C')
include hC
mutual
theorem wpE_mono : ∀ (e : E) (env : Env) (st : Store) (Q Q' : QE) (X X' : QX), (∀ d s, Q d s → Q' d s) → (∀ x s, X x s → X' x s) → wpE T C hx e env st Q X → wpE T C' hx e env st Q' X'
  | .var i, env, st, Q, Q', X, X', hQ, hX, h => getV_mono (fun d => hQ d st) h
  | .con d, env, st, Q, Q', X, X', hQ, hX, h => hQ _ _ h
  | .glo g, env, st, Q, Q', X, X', hQ, hX, h => by
    unfold wpE at h ⊢
    split at h
    · exact hQ _ _ h
    · exact h.elim
  | .bin o a b, env, st, Q, Q', X, X', hQ, hX, h => wpE_mono a env st _ _ _ _ (fun x s1 h1 => wpE_mono b env s1 _ _ _ _ (fun y s2 h2 => binQ_mono hQ h2) hX h1) hX h
  | .neg a, env, st, Q, Q', X, X', hQ, hX, h => wpE_mono a env st _ _ _ _ (fun x s1 h1 => by
    split at h1
    · exact hQ _ _ h1
    · exact h1.elim) hX h
  | .cmp o a b, env, st, Q, Q', X, X', hQ, hX, h => wpE_mono a env st _ _ _ _ (fun x s1 h1 => wpE_mono b env s1 _ _ _ _ (fun y s2 h2 => cmpQ_mono (fun b => hQ _ _) h2) hX h1) hX h
  | .chain o o' a b c, env, st, Q, Q', X, X', hQ, hX, h => wpE_mono a env st _ _ _ _ (fun x s1 h1 => wpE_mono b env s1 _ _ _ _ (fun y s2 h2 => cmpQ_mono (fun k h3 => by
    cases k with
    | true =>
      rw [if_pos rfl] at h3 ⊢
      exact wpE_mono c env s2 _ _ _ _ (fun z s3 h4 => cmpQ_mono (fun b => hQ _ _) h4) hX h3
    | false => exact hQ _ _ h3) h2) hX h1) hX h
  | .isN a, env, st, Q, Q', X, X', hQ, hX, h => wpE_mono a env st _ _ _ _ (fun x s1 h1 => hQ _ _ h1) hX h
  | .notN a, env, st, Q, Q', X, X', hQ, hX, h => wpE_mono a env st _ _ _ _ (fun x s1 h1 => hQ _ _ h1) hX h
  | .and a b, env, st, Q, Q', X, X', hQ, hX, h => wpE_mono a env st _ _ _ _ (fun x s1 h1 => by
    split at h1
    · rename_i c
      cases c with
      | true => exact wpE_mono b env s1 _ _ _ _ hQ hX h1
      | false => exact hQ _ _ h1
    · exact h1.elim) hX h
  | .or a b, env, st, Q, Q', X, X', hQ, hX, h => wpE_mono a env st _ _ _ _ (fun x s1 h1 => by
    split at h1
    · rename_i c
      cases c with
      | true => exact hQ _ _ h1
      | false => exact wpE_mono b env s1 _ _ _ _ hQ hX h1
    · exact h1.elim) hX h
  | .not a, env, st, Q, Q', X, X', hQ, hX, h => wpE_mono a env st _ _ _ _ (fun x s1 h1 => by
    split at h1
    · exact hQ _ _ h1
    · exact h1.elim) hX h
  | .ife c a b, env, st, Q, Q', X, X', hQ, hX, h => wpT_mono c env st _ _ _ _ (fun k s1 h1 => by
    cases k with
    | true => exact wpE_mono a env s1 _ _ _ _ hQ hX h1
    | false => exact wpE_mono b env s1 _ _ _ _ hQ hX h1) hX h
  | .call f as df, env, st, Q, Q', X, X', hQ, hX, h => ⟨h.1, wpA_mono as env st _ _ _ _ (fun ds s1 h1 => hC _ _ _ _ _ _ _ hQ hX h1) hX h.2⟩
  | .make c f as, env, st, Q, Q', X, X', hQ, hX, h => ⟨h.1, wpA_mono as env st _ _ _ _ (fun ds s1 h1 => hC _ _ _ _ _ _ _ (fun d s2 h2 => ⟨h2.1, hQ _ _ h2.2⟩) hX h1) hX h.2⟩
  | .meth alts o as, env, st, Q, Q', X, X', hQ, hX, h => ⟨h.1, wpE_mono o env st _ _ _ _ (fun x s1 h1 => by
    split at h1
    · split at h1
      · split at h1
        · exact wpA_mono as env s1 _ _ _ _ (fun ds s2 h2 => hC _ _ _ _ _ _ _ hQ hX h2) hX h1
        · exact h1.elim
      · exact h1.elim
    · exact h1.elim) hX h.2⟩
  | .fld f o, env, st, Q, Q', X, X', hQ, hX, h => wpE_mono o env st _ _ _ _ (fun x s1 h1 => fldQ_mono hQ h1) hX h
  | .eqo c f a b, env, st, Q, Q', X, X', hQ, hX, h => ⟨h.1, wpE_mono a env st _ _ _ _ (fun x s1 h1 => wpE_mono b env s1 _ _ _ _ (fun y s2 h2 => ⟨h2.1, h2.2.1, hC _ _ _ _ _ _ _ (fun d s h3 => ⟨h3.1, hQ _ _ h3.2⟩) (fun _ _ h3 => h3) h2.2.2⟩) hX h1) hX h.2⟩
  | .pr p as, env, st, Q, Q', X, X', hQ, hX, h => ⟨h.1, wpA_mono as env st _ _ _ _ (fun ds s1 h1 => prQ_mono hQ h1) hX h.2⟩
  | .me m o as, env, st, Q, Q', X, X', hQ, hX, h => wpE_mono o env st _ _ _ _ (fun x s1 h1 => ⟨h1.1, wpA_mono as env s1 _ _ _ _ (fun ds s2 h2 => meQ_mono hQ h2) hX h1.2⟩) hX h
  | .isi a ts, env, st, Q, Q', X, X', hQ, hX, h => wpE_mono a env st _ _ _ _ (fun x s1 h1 => ⟨h1.1, hQ _ _ h1.2⟩) hX h
  | .idx a b, env, st, Q, Q', X, X', hQ, hX, h => wpE_mono a env st _ _ _ _ (fun x s1 h1 => wpE_mono b env s1 _ _ _ _ (fun y s2 h2 => idxQ_mono hQ h2) hX h1) hX h
  | .sli a lo hi, env, st, Q, Q', X, X', hQ, hX, h => wpE_mono a env st _ _ _ _ (fun x s1 h1 => wpE_mono lo env s1 _ _ _ _ (fun l s2 h2 => partQ_mono (fun l' h3 => wpE_mono hi env s2 _ _ _ _ (fun u s3 h4 => partQ_mono (fun u' h5 => sliQ_mono hQ h5) h4) hX h3) h2) hX h1) hX h
  | .abs0, env, st, Q, Q', X, X', hQ, hX, h => hQ _ _ h
  | .tup as, env, st, Q, Q', X, X', hQ, hX, h => wpA_mono as env st _ _ _ _ (fun ds s1 h1 => hQ _ _ h1) hX h
  | .lst as, env, st, Q, Q', X, X', hQ, hX, h => wpA_mono as env st _ _ _ _ (fun ds s1 h1 => hQ _ _ h1) hX h
  | .dic as, env, st, Q, Q', X, X', hQ, hX, h => wpA_mono as env _ _ _ _ _ (fun ds s1 h1 => dispQ_mono hQ h1) hX h
  | .comp elt tg it cs own, env, st, Q, Q', X, X', hQ, hX, h => ⟨h.1, wpI_mono it env st _ _ _ _ (fun j s1 ⟨n, h1⟩ => ⟨n, cmpN_mono (fun e s P P' hP => wpTs_mono cs e s P P' hP) (fun e s P P' hP => wpE_mono elt e s P P' _ _ hP fun _ _ z => z) hQ n 0 _ _ h1⟩) hX h.2⟩
  | .dcomp kx vx tg it cs own, env, st, Q, Q', X, X', hQ, hX, h => ⟨h.1, wpI_mono it env st _ _ _ _ (fun j s1 ⟨n, h1⟩ => ⟨n, dcmN_mono (fun e s P P' hP => wpTs_mono cs e s P P' hP) (fun e s P P' hP => wpE_mono kx e s P P' _ _ hP fun _ _ z => z) (fun e s P P' hP => wpE_mono vx e s P P' _ _ hP fun _ _ z => z) hQ n 0 _ _ h1⟩) hX h.2⟩
  | .fstr as, env, st, Q, Q', X, X', hQ, hX, h => wpF_mono as env st _ _ _ _ _ (fun y s1 => hQ _ _) hX h
  | .efld f, env, st, Q, Q', X, X', hQ, hX, h => by
    unfold wpE at h ⊢
    split at h
    · split at h
      · exact hQ _ _ h
      · exact h.elim
    · exact h.elim
  | .eisi cs, env, st, Q, Q', X, X', hQ, hX, h => by
    unfold wpE at h ⊢
    split at h
    · split at h
      · exact hQ _ _ h
      · exact h.elim
    · exact h.elim
  | .rng1 _, _, _, _, _, _, _, _, _, h => h.elim
  | .rng2 _ _, _, _, _, _, _, _, _, _, h => h.elim
  | .enm _, _, _, _, _, _, _, _, _, h => h.elim
  | .rev _, _, _, _, _, _, _, _, _, h => h.elim
  | .rvl a, env, st, Q, Q', X, X', hQ, hX, h => wpE_mono a env st _ _ _ _ (fun x s1 h1 => rvlQ_mono hQ h1) hX h
  | .zip _ _, _, _, _, _, _, _, _, _, h => h.elim
  | .tv _, _, _, _, _, _, _, _, _, h => h.elim
  | .sq _, _, _, _, _, _, _, _, _, h => h.elim
  | .bad, _, _, _, _, _, _, _, _, h => h.elim
theorem wpT_mono : ∀ (e : E) (env : Env) (st : Store) (Q Q' : Bool → Store → Prop) (X X' : QX), (∀ d s, Q d s → Q' d s) → (∀ x s, X x s → X' x s) → wpT T C hx e env st Q X → wpT T C' hx e env st Q' X'
  | .cmp o a b, env, st, Q, Q', X, X', hQ, hX, h => wpE_mono a env st _ _ _ _ (fun x s1 h1 => wpE_mono b env s1 _ _ _ _ (fun y s2 h2 => cmpQ_mono (fun b => hQ _ _) h2) hX h1) hX h
  | .chain o o' a b c, env, st, Q, Q', X, X', hQ, hX, h => wpE_mono a env st _ _ _ _ (fun x s1 h1 => wpE_mono b env s1 _ _ _ _ (fun y s2 h2 => cmpQ_mono (fun k h3 => by
    cases k with
    | true =>
      rw [if_pos rfl] at h3 ⊢
      exact wpE_mono c env s2 _ _ _ _ (fun z s3 h4 => cmpQ_mono (fun b => hQ _ _) h4) hX h3
    | false => exact hQ _ _ h3) h2) hX h1) hX h
  | .isN a, env, st, Q, Q', X, X', hQ, hX, h => wpE_mono a env st _ _ _ _ (fun x s1 h1 => hQ _ _ h1) hX h
  | .notN a, env, st, Q, Q', X, X', hQ, hX, h => wpE_mono a env st _ _ _ _ (fun x s1 h1 => hQ _ _ h1) hX h
  | .and a b, env, st, Q, Q', X, X', hQ, hX, h => wpT_mono a env st _ _ _ _ (fun k s1 h1 => by
    cases k with
    | true => exact wpT_mono b env s1 _ _ _ _ hQ hX h1
    | false => exact hQ _ _ h1) hX h
  | .or a b, env, st, Q, Q', X, X', hQ, hX, h => wpT_mono a env st _ _ _ _ (fun k s1 h1 => by
    cases k with
    | true => exact hQ _ _ h1
    | false => exact wpT_mono b env s1 _ _ _ _ hQ hX h1) hX h
  | .not a, env, st, Q, Q', X, X', hQ, hX, h => wpT_mono a env st _ _ _ _ (fun k s1 h1 => hQ _ _ h1) hX h
  | .tv a, env, st, Q, Q', X, X', hQ, hX, h => wpE_mono a env st _ _ _ _ (fun x s1 h1 => truQ_mono (fun k => hQ _ _) h1) hX h
  | .var _, _, _, _, _, _, _, _, _, h => h.elim
  | .con _, _, _, _, _, _, _, _, _, h => h.elim
  | .glo _, _, _, _, _, _, _, _, _, h => h.elim
  | .bin _ _ _, _, _, _, _, _, _, _, _, h => h.elim
  | .neg _, _, _, _, _, _, _, _, _, h => h.elim
  | .ife _ _ _, _, _, _, _, _, _, _, _, h => h.elim
  | .call _ _ _, _, _, _, _, _, _, _, _, h => h.elim
  | .make _ _ _, _, _, _, _, _, _, _, _, h => h.elim
  | .meth _ _ _, _, _, _, _, _, _, _, _, h => h.elim
  | .eqo _ _ _ _, _, _, _, _, _, _, _, _, h => h.elim
  | .fld _ _, _, _, _, _, _, _, _, _, h => h.elim
  | .pr _ _, _, _, _, _, _, _, _, _, h => h.elim
  | .me _ _ _, _, _, _, _, _, _, _, _, h => h.elim
  | .isi _ _, _, _, _, _, _, _, _, _, h => h.elim
  | .idx _ _, _, _, _, _, _, _, _, _, h => h.elim
  | .sli _ _ _, _, _, _, _, _, _, _, _, h => h.elim
  | .abs0, _, _, _, _, _, _, _, _, h => h.elim
  | .tup _, _, _, _, _, _, _, _, _, h => h.elim
  | .lst _, _, _, _, _, _, _, _, _, h => h.elim
  | .dic _, _, _, _, _, _, _, _, _, h => h.elim
  | .comp _ _ _ _ _, _, _, _, _, _, _, _, _, h => h.elim
  | .dcomp _ _ _ _ _ _, _, _, _, _, _, _, _, _, h => h.elim
  | .fstr _, _, _, _, _, _, _, _, _, h => h.elim
  | .efld _, _, _, _, _, _, _, _, _, h => h.elim
  | .eisi _, _, _, _, _, _, _, _, _, h => h.elim
  | .rng1 _, _, _, _, _, _, _, _, _, h => h.elim
  | .rng2 _ _, _, _, _, _, _, _, _, _, h => h.elim
  | .enm _, _, _, _, _, _, _, _, _, h => h.elim
  | .rev _, _, _, _, _, _, _, _, _, h => h.elim
  | .rvl _, _, _, _, _, _, _, _, _, h => h.elim
  | .zip _ _, _, _, _, _, _, _, _, _, h => h.elim
  | .sq _, _, _, _, _, _, _, _, _, h => h.elim
  | .bad, _, _, _, _, _, _, _, _, h => h.elim
theorem wpA_mono : ∀ (as : A) (env : Env) (st : Store) (Q Q' : List D → Store → Prop) (X X' : QX), (∀ d s, Q d s → Q' d s) → (∀ x s, X x s → X' x s) → wpA T C hx as env st Q X → wpA T C' hx as env st Q' X'
  | .nil, env, st, Q, Q', X, X', hQ, hX, h => hQ _ _ h
  | .cons e as, env, st, Q, Q', X, X', hQ, hX, h => wpE_mono e env st _ _ _ _ (fun d s1 h1 => wpA_mono as env s1 _ _ _ _ (fun ds s2 h2 => hQ _ _ h2) hX h1) hX h
theorem wpF_mono : ∀ (as : A) (env : Env) (st : Store) (acc : List Nat) (Q Q' : List Nat → Store → Prop) (X X' : QX), (∀ d s, Q d s → Q' d s) → (∀ x s, X x s → X' x s) → wpF T C hx as env st acc Q X → wpF T C' hx as env st acc Q' X'
  | .nil, env, st, acc, Q, Q', X, X', hQ, hX, h => hQ _ _ h
  | .cons e as, env, st, acc, Q, Q', X, X', hQ, hX, h => wpE_mono e env st _ _ _ _ (fun d s1 h1 => fmtQ_mono (x := d) (fun y z => ⟨z.1, wpF_mono as env s1 _ _ _ _ _ hQ hX z.2⟩) h1) hX h
theorem wpTs_mono : ∀ (as : A) (env : Env) (st : Store) (Q Q' : Bool → Store → Prop), (∀ d s, Q d s → Q' d s) → wpTs T C hx as env st Q → wpTs T C' hx as env st Q'
  | .nil, env, st, Q, Q', hQ, h => hQ _ _ h
  | .cons e .nil, env, st, Q, Q', hQ, h => wpT_mono e env st _ _ _ _ hQ (fun _ _ z => z) h
  | .cons _ (.cons _ _), _, _, _, _, _, h => h.elim
theorem wpI_mono : ∀ (e : E) (env : Env) (st : Store) (Q Q' : J → Store → Prop) (X X' : QX), (∀ d s, Q d s → Q' d s) → (∀ x s, X x s → X' x s) → wpI T C hx e env st Q X → wpI T C' hx e env st Q' X'
  | .rng1 a, env, st, Q, Q', X, X', hQ, hX, h => wpE_mono a env st _ _ _ _ (fun x s1 h1 => by
    split at h1
    · exact ⟨h1.1, h1.2.1, hQ _ _ h1.2.2⟩
    · exact h1.elim) hX h
  | .rng2 a b, env, st, Q, Q', X, X', hQ, hX, h => wpE_mono a env st _ _ _ _ (fun x s1 h1 => wpE_mono b env s1 _ _ _ _ (fun y s2 h2 => by
    split at h2
    · exact ⟨h2.1, hQ _ _ h2.2⟩
    · exact h2.elim) hX h1) hX h
  | .enm a, env, st, Q, Q', X, X', hQ, hX, h => wpE_mono a env st _ _ _ _ (fun x s1 h1 => enmQ_mono (fun j => hQ _ _) h1) hX h
  | .zip a b, env, st, Q, Q', X, X', hQ, hX, h => wpE_mono a env st _ _ _ _ (fun x s1 h1 => wpE_mono b env s1 _ _ _ _ (fun y s2 h2 => zipQ_mono (fun j => hQ _ _) h2) hX h1) hX h
  | .sq a, env, st, Q, Q', X, X', hQ, hX, h => wpE_mono a env st _ _ _ _ (fun x s1 h1 => walkQ_mono (fun j => hQ _ _) h1) hX h
  | .rev a, env, st, Q, Q', X, X', hQ, hX, h => wpE_mono a env st _ _ _ _ (fun x s1 h1 => revQ_mono (fun j => hQ _ _) h1) hX h
  | .rvl _, _, _, _, _, _, _, _, _, h => h.elim
  | .var _, _, _, _, _, _, _, _, _, h => h.elim
  | .con _, _, _, _, _, _, _, _, _, h => h.elim
  | .glo _, _, _, _, _, _, _, _, _, h => h.elim
  | .bin _ _ _, _, _, _, _, _, _, _, _, h => h.elim
  | .neg _, _, _, _, _, _, _, _, _, h => h.elim
  | .cmp _ _ _, _, _, _, _, _, _, _, _, h => h.elim
  | .chain _ _ _ _ _, _, _, _, _, _, _, _, _, h => h.elim
  | .isN _, _, _, _, _, _, _, _, _, h => h.elim
  | .notN _, _, _, _, _, _, _, _, _, h => h.elim
  | .and _ _, _, _, _, _, _, _, _, _, h => h.elim
  | .or _ _, _, _, _, _, _, _, _, _, h => h.elim
  | .not _, _, _, _, _, _, _, _, _, h => h.elim
  | .ife _ _ _, _, _, _, _, _, _, _, _, h => h.elim
  | .call _ _ _, _, _, _, _, _, _, _, _, h => h.elim
  | .make _ _ _, _, _, _, _, _, _, _, _, h => h.elim
  | .meth _ _ _, _, _, _, _, _, _, _, _, h => h.elim
  | .eqo _ _ _ _, _, _, _, _, _, _, _, _, h => h.elim
  | .fld _ _, _, _, _, _, _, _, _, _, h => h.elim
  | .pr _ _, _, _, _, _, _, _, _, _, h => h.elim
  | .me _ _ _, _, _, _, _, _, _, _, _, h => h.elim
  | .isi _ _, _, _, _, _, _, _, _, _, h => h.elim
  | .idx _ _, _, _, _, _, _, _, _, _, h => h.elim
  | .sli _ _ _, _, _, _, _, _, _, _, _, h => h.elim
  | .abs0, _, _, _, _, _, _, _, _, h => h.elim
  | .tup _, _, _, _, _, _, _, _, _, h => h.elim
  | .lst _, _, _, _, _, _, _, _, _, h => h.elim
  | .dic _, _, _, _, _, _, _, _, _, h => h.elim
  | .comp _ _ _ _ _, _, _, _, _, _, _, _, _, h => h.elim
  | .dcomp _ _ _ _ _ _, _, _, _, _, _, _, _, _, h => h.elim
  | .fstr _, _, _, _, _, _, _, _, _, h => h.elim
  | .efld _, _, _, _, _, _, _, _, _, h => h.elim
  | .eisi _, _, _, _, _, _, _, _, _, h => h.elim
  | .tv _, _, _, _, _, _, _, _, _, h => h.elim
  | .bad, _, _, _, _, _, _, _, _, h => h.elim
end
end
mutual
theorem wpS_mono {T : Tab} {C C' : Calls} (hC : MonoC2 C C') : ∀ (s : S) (hx : Option Exc) (env : Env) (st : Store) (k k' : K), k.Le k' → wpS T C hx s env st k → wpS T C' hx s env st k'
  | .asg tg e, hx, env, st, k, k', hk, h => ⟨h.1, wpE_mono hC e env st _ _ _ _ (fun d s1 h1 => by
    split at h1
    · exact hk.nx _ _ h1
    · exact h1.elim) (fun x s1 => hk.xc x env s1) h.2⟩
  | .asg2 i j a b, hx, env, st, k, k', hk, h => ⟨h.1, wpE_mono hC a env st _ _ _ _ (fun x s1 h1 => wpE_mono hC b env s1 _ _ _ _ (fun y s2 h2 => hk.nx _ _ h2) (fun x s1 => hk.xc x env s1) h1) (fun x s1 => hk.xc x env s1) h.2⟩
  | .setf o f e, hx, env, st, k, k', hk, h => wpE_mono hC e env st _ _ _ _ (fun v s1 h1 => wpE_mono hC o env s1 _ _ _ _ (fun x s2 h2 => setfQ_mono (fun s3 => hk.nx _ _) h2) (fun x s1 => hk.xc x env s1) h1) (fun x s1 => hk.xc x env s1) h
  | .seti o i e, hx, env, st, k, k', hk, h => wpE_mono hC e env st _ _ _ _ (fun v s1 h1 => wpE_mono hC o env s1 _ _ _ _ (fun x s2 h2 => wpE_mono hC i env s2 _ _ _ _ (fun y s3 h3 => setQ_mono (fun s4 => hk.nx _ _) h3) (fun x s1 => hk.xc x env s1) h2) (fun x s1 => hk.xc x env s1) h1) (fun x s1 => hk.xc x env s1) h
  | .augn i op e, hx, env, st, k, k', hk, h => getV_mono (fun x h0 => wpE_mono hC e env st _ _ _ _ (fun y s1 h1 => by
    split at h1
    · exact hk.nx _ _ h1
    · exact hk.nx _ _ h1
    · exact h1.elim) (fun x s1 => hk.xc x env s1) h0) h
  | .augf o f op e, hx, env, st, k, k', hk, h => wpE_mono hC o env st _ _ _ _ (fun x s1 h1 => fldQ_mono (fun v s1 h2 => wpE_mono hC e env s1 _ _ _ _ (fun y s2 h3 => by
    split at h3
    · exact ⟨h3.1, setfQ_mono (fun s3 => hk.nx _ _) h3.2⟩
    · exact ⟨h3.1, setfQ_mono (fun s3 => hk.nx _ _) h3.2⟩
    · exact h3.elim) (fun x s1 => hk.xc x env s1) h2) h1) (fun x s1 => hk.xc x env s1) h
  | .exp e, hx, env, st, k, k', hk, h => wpE_mono hC e env st _ _ _ _ (fun d s1 h1 => hk.nx _ _ h1) (fun x s1 => hk.xc x env s1) h
  | .ret e, hx, env, st, k, k', hk, h => wpE_mono hC e env st _ _ _ _ (fun d s1 h1 => hk.rt _ _ h1) (fun x s1 => hk.xc x env s1) h
  | .retN, hx, env, st, k, k', hk, h => hk.rt _ _ h
  | .ifS c a b, hx, env, st, k, k', hk, h => wpT_mono hC c env st _ _ _ _ (fun t s1 h1 => by
    cases t with
    | true => exact wpB_mono hC a hx env s1 _ _ hk h1
    | false => exact wpB_mono hC b hx env s1 _ _ hk h1) (fun x s1 => hk.xc x env s1) h
  | .forS tg it b, hx, env, st, k, k', hk, h => ⟨h.1, wpI_mono hC it env st _ _ _ _ (fun j s1 ⟨n, h1⟩ => ⟨n, forN_mono (fun e s q q' hq => wpB_mono hC b hx e s q q' hq) hk n 0 env s1 h1⟩) (fun x s1 => hk.xc x env s1) h.2⟩
  | .whl c b, hx, env, st, k, k', hk, h => ⟨h.1, h.2.elim fun n h1 => ⟨n, whlN_mono (fun e s P P' hP => wpT_mono hC c e s P P' _ _ hP fun x s1 => hk.xc x e s1) (fun e s q q' hq => wpB_mono hC b hx e s q q' hq) hk n env st h1⟩⟩
  | .brk, hx, env, st, k, k', hk, h => hk.bk _ _ h
  | .cnt, hx, env, st, k, k', hk, h => hk.ct _ _ h
  | .pas, hx, env, st, k, k', hk, h => hk.nx _ _ h
  | .rais c .nil, hx, env, st, k, k', hk, h => by
    unfold wpS at h ⊢
    refine ⟨h.1, ?_⟩
    have h2 := h.2
    split at h2
    · exact hk.xc _ _ _ h2
    · rename_i e; cases e
    · exact h2.elim
  | .rais c (.cons e .nil), hx, env, st, k, k', hk, h => by
    unfold wpS at h ⊢
    refine ⟨h.1, ?_⟩
    have h2 := h.2
    split at h2
    · rename_i e; cases e
    · rename_i e1 e2
      cases e2
      exact wpE_mono hC e env st _ _ _ _ (fun d s1 => hk.xc _ _ _) (fun x s1 => hk.xc x env s1) h2
    · exact h2.elim
  | .rais c (.cons _ (.cons _ _)), hx, env, st, k, k', hk, h => by
    unfold wpS at h ⊢
    refine ⟨h.1, ?_⟩
    have h2 := h.2
    split at h2
    · rename_i e; cases e
    · rename_i e; cases e
    · exact h2.elim
  | .tryS b hs, hx, env, st, k, k', hk, h => by
    refine ⟨h.1, wpB_mono hC b hx env st _ _ ?_ h.2⟩
    exact ⟨hk.nx, hk.rt, hk.bk, hk.ct, fun x e s => wpH_mono hC hs x e s k k' hk⟩
  | .del _ _, _, _, _, _, _, _, h => h.elim
  | .bad, _, _, _, _, _, _, h => h.elim
theorem wpB_mono {T : Tab} {C C' : Calls} (hC : MonoC2 C C') : ∀ (b : B) (hx : Option Exc) (env : Env) (st : Store) (k k' : K), k.Le k' → wpB T C hx b env st k → wpB T C' hx b env st k'
  | .nil, hx, env, st, k, k', hk, h => hk.nx _ _ h
  | .cons s b, hx, env, st, k, k', hk, h => by
    unfold wpB at h ⊢
    refine wpS_mono hC s hx env st _ _ ?_ h
    exact ⟨fun e s' => wpB_mono hC b hx e s' k k' hk, hk.rt, hk.bk, hk.ct, hk.xc⟩
theorem wpH_mono {T : Tab} {C C' : Calls} (hC : MonoC2 C C') : ∀ (hs : Hs) (x : Exc) (env : Env) (st : Store) (k k' : K), k.Le k' → wpH T C hs x env st k → wpH T C' hs x env st k'
  | .nil, x, env, st, k, k', hk, h => hk.xc _ _ _ h
  | .cons c nm b hs, x, env, st, k, k', hk, h => by
    unfold wpH at h ⊢
    split at h
    · rename_i e
      rw [if_pos e]
      refine wpB_mono hC b _ _ _ _ _ ?_ h
      exact ⟨fun e' s' => hk.nx _ _, hk.rt, fun _ _ z => z, fun _ _ z => z, fun _ _ _ z => z⟩
    · rename_i e
      rw [if_neg e]
      exact wpH_mono hC hs x env st k k' hk h
end
theorem Call_mono (T : Tab) : ∀ n : Nat, MonoC (Call T n)
  | 0, _, _, _, _, _, _, _, _, _, h => h.elim
  | n + 1, f, ds, st, Q, Q', X, X', hQ, hX, h => by
    unfold Call at h ⊢
    split at h
    · exact h.elim
    · refine ⟨h.1, wpB_mono (Call_mono T n) _ _ _ _ _ _ ?_ h.2⟩
      exact ⟨fun _ s => hQ _ _, hQ, fun _ _ z => z, fun _ _ z => z, fun x _ s => hX x s⟩
theorem Call_le (T : Tab) : ∀ n m : Nat, n ≤ m → MonoC2 (Call T n) (Call T m)
  | 0, _, _, _, _, _, _, _, _, _, _, _, h => h.elim
  | n + 1, 0, l, _, _, _, _, _, _, _, _, _, _ => absurd l (by omega)
  | n + 1, m + 1, l, f, ds, st, Q, Q', X, X', hQ, hX, h => by
    unfold Call at h ⊢
    split at h
    · exact h.elim
    · refine ⟨h.1, wpB_mono (Call_le T n m (Nat.le_of_succ_le_succ l)) _ _ _ _ _ _ ?_ h.2⟩
      exact ⟨fun _ s => hQ _ _, hQ, fun _ _ z => z, fun _ _ z => z, fun x _ s => hX x s⟩
theorem up {T : Tab} {n m f : Nat} {ds : List D} {st : Store} {Q : QE} {X : QX} (l : n ≤ m) (h : Call T n f ds st Q X) : Call T m f ds st Q X := Call_le T n m l _ _ _ _ _ _ _ (fun _ _ z => z) (fun _ _ z => z) h
end Y
set_option linter.all false
set_option maxHeartbeats 4000000
namespace Y
open PySem PySem.Spec PyProof.Rows L2
structure Cau where
  slot : Nat
  ob : Addr
  cls : Value
  dx : Option Addr
  exc : Exc
structure G where
  cx : Option Cau
  K : PySem.W.Frag
  fa : Nat → Addr
  ca : Nat → Addr
  ka : Nat → Addr
  nm : Nat → Option Str
  okc : Nat → Bool
  oke : Nat → Bool
abbrev Mp := Nat → Option Addr
mutual
def RD (g : G) (m : Mp) (H : Hp) : D → V → Prop
  | .non, v => v = .non
  | .bl b, v => v = .bl b
  | .int i, v => v = .int i
  | .str x, v => v = .str ⟨x.toArray⟩
  | .tup ds, v => ∃ a vs, v = .ref a ∧ SqT g.K H a vs ∧ RDs g m H ds vs
  | .ref h, v => ∃ a, v = .ref a ∧ m h = some a
  | .kon k, v => v = .ref (g.ka k)
def RDs (g : G) (m : Mp) (H : Hp) : List D → List V → Prop
  | [], vs => vs = []
  | d :: ds, vs => ∃ v r, vs = v :: r ∧ RD g m H d v ∧ RDs g m H ds r
end
structure Ext (m m' : Mp) (H H' : Hp) : Prop where
  mm : ∀ h a, m h = some a → m' h = some a
  tt : ∀ b xs, Rd H b (.tup xs) → Rd H' b (.tup xs)
  xd : ∀ b fs, H b = some (.xd fs) → H' b = some (.xd fs)
theorem Ext.refl (m : Mp) (H : Hp) : Ext m m H H := ⟨fun _ _ h => h, fun _ _ h => h, fun _ _ h => h⟩
theorem Ext.trans {m m1 m2 : Mp} {H H1 H2 : Hp} (a : Ext m m1 H H1) (b : Ext m1 m2 H1 H2) : Ext m m2 H H2 :=
  ⟨fun h x e => b.mm h x (a.mm h x e), fun p xs r => b.tt p xs (a.tt p xs r), fun p fs r => b.xd p fs (a.xd p fs r)⟩
theorem SqT.ext {K : PySem.W.Frag} {m m' : Mp} {H H' : Hp} {a : Addr} {xs : List V} (e : Ext m m' H H') (h : SqT K H a xs) : SqT K H' a xs := by
  rcases h with h | h
  · exact .inl (e.tt _ _ h)
  · exact .inr h
section
variable {g : G} {m m' : Mp} {H H' : Hp}
mutual
theorem RD.mono (e : Ext m m' H H') : ∀ (d : D) (v : V), RD g m H d v → RD g m' H' d v
  | .non, _, h => h
  | .bl _, _, h => h
  | .int _, _, h => h
  | .str _, _, h => h
  | .tup ds, _, h => by
    obtain ⟨a, vs, h1, h2, h3⟩ := h
    exact ⟨a, vs, h1, SqT.ext e h2, RDs.mono e ds vs h3⟩
  | .ref _, _, h => by
    obtain ⟨a, h1, h2⟩ := h
    exact ⟨a, h1, e.mm _ _ h2⟩
  | .kon _, _, h => h
theorem RDs.mono (e : Ext m m' H H') : ∀ (ds : List D) (vs : List V), RDs g m H ds vs → RDs g m' H' ds vs
  | [], _, h => h
  | d :: ds, _, h => by
    obtain ⟨v, r, h1, h2, h3⟩ := h
    exact ⟨v, r, h1, RD.mono e d v h2, RDs.mono e ds r h3⟩
end
theorem RDs.length : ∀ {ds : List D} {vs : List V}, RDs g m H ds vs → vs.length = ds.length
  | [], _, h => by rw [show _ = [] from h]; rfl
  | d :: ds, _, h => by
    obtain ⟨v, r, rfl, _, h3⟩ := h
    simp [h3.length]
theorem RDs.get : ∀ {ds : List D} {vs : List V} {i : Nat} {d : D}, RDs g m H ds vs → ds[i]? = some d → ∃ v, vs[i]? = some v ∧ RD g m H d v
  | [], _, _, _, _, e => by simp at e
  | x :: ds, _, 0, d, h, e => by
    obtain ⟨v, r, rfl, h2, _⟩ := h
    simp at e
    subst e
    exact ⟨v, rfl, h2⟩
  | x :: ds, _, i + 1, d, h, e => by
    obtain ⟨v, r, rfl, _, h3⟩ := h
    obtain ⟨w, q1, q2⟩ := h3.get (i := i) (d := d) (by simpa using e)
    exact ⟨w, by simpa using q1, q2⟩
theorem RDs.app : ∀ {ds es : List D} {vs ws : List V}, RDs g m H ds vs → RDs g m H es ws → RDs g m H (ds ++ es) (vs ++ ws)
  | [], _, _, _, h, h' => by rw [show _ = [] from h]; exact h'
  | d :: ds, _, _, _, h, h' => by
    obtain ⟨v, r, rfl, h2, h3⟩ := h
    exact ⟨v, r ++ _, rfl, h2, h3.app h'⟩
theorem RDs.take : ∀ {ds : List D} {vs : List V} (n : Nat), RDs g m H ds vs → RDs g m H (ds.take n) (vs.take n)
  | [], _, n, h => by rw [show _ = [] from h]; simp [RDs]
  | d :: ds, _, 0, h => by simp [RDs]
  | d :: ds, _, n + 1, h => by
    obtain ⟨v, r, rfl, h2, h3⟩ := h
    exact ⟨v, r.take n, rfl, h2, h3.take n⟩
theorem RDs.drop : ∀ {ds : List D} {vs : List V} (n : Nat), RDs g m H ds vs → RDs g m H (ds.drop n) (vs.drop n)
  | [], _, n, h => by rw [show _ = [] from h]; simp [RDs]
  | d :: ds, _, 0, h => h
  | d :: ds, _, n + 1, h => by
    obtain ⟨v, r, rfl, h2, h3⟩ := h
    exact h3.drop n
theorem RDs.set : ∀ {ds : List D} {vs : List V} {d : D} {v : V} (i : Nat), RDs g m H ds vs → RD g m H d v → RDs g m H (ds.set i d) (vs.set i v)
  | [], _, _, _, _, h, _ => by rw [show _ = [] from h]; exact rfl
  | x :: ds, _, d, v, 0, h, q => by
    obtain ⟨w, r, rfl, h2, h3⟩ := h
    exact ⟨v, r, rfl, q, h3⟩
  | x :: ds, _, d, v, i + 1, h, q => by
    obtain ⟨w, r, rfl, h2, h3⟩ := h
    exact ⟨w, r.set i v, rfl, h2, h3.set i q⟩
theorem RDs.one {d : D} {v : V} (h : RD g m H d v) : RDs g m H [d] [v] := ⟨v, [], rfl, h, rfl⟩
theorem RDs.nil : RDs g m H [] [] := rfl
theorem RDs.cons {d : D} {v : V} {ds : List D} {vs : List V} (h : RD g m H d v) (t : RDs g m H ds vs) : RDs g m H (d :: ds) (v :: vs) := ⟨v, vs, rfl, h, t⟩
theorem RDs.rev {ds : List D} {vs : List V} (h : RDs g m H ds vs) : RDs g m H ds.reverse vs.reverse := by
  induction ds generalizing vs with
  | nil =>
    rw [show vs = [] from h]
    exact rfl
  | cons d ds ih =>
    obtain ⟨v, r, rfl, h2, h3⟩ := h
    rw [List.reverse_cons, List.reverse_cons]
    exact (ih h3).app (.one h2)
theorem RDs.rep {ds : List D} {vs : List V} (h : RDs g m H ds vs) : ∀ n : Nat, RDs g m H (List.replicate n ds).flatten (List.replicate n vs).flatten
  | 0 => rfl
  | n + 1 => by
    rw [List.replicate_succ, List.replicate_succ, List.flatten_cons, List.flatten_cons]
    exact h.app (RDs.rep h n)
theorem RDs.dropLast {ds : List D} {vs : List V} (h : RDs g m H ds vs) : RDs g m H ds.dropLast vs.dropLast := by
  rw [List.dropLast_eq_take, List.dropLast_eq_take, h.length]
  exact h.take _
theorem RDs.two {a b : D} {vs : List V} (h : RDs g m H [a, b] vs) : ∃ v w, vs = [v, w] ∧ RD g m H a v ∧ RD g m H b w := by
  obtain ⟨v, r, rfl, h2, w, r2, rfl, h3, h4⟩ := h
  rw [show r2 = [] from h4]
  exact ⟨v, w, rfl, h2, h3⟩
theorem RDs.un1 {a : D} {vs : List V} (h : RDs g m H [a] vs) : ∃ v, vs = [v] ∧ RD g m H a v := by
  obtain ⟨v, r, rfl, h2, h3⟩ := h
  rw [show r = [] from h3]
  exact ⟨v, rfl, h2⟩
def kD : Key → D
  | .inl i => .int i
  | .inr x => .str x.cps.toList
theorem kD_inj {a b : Key} (h : kD a = kD b) : a = b := by
  cases a with
  | inl i => cases b with
    | inl j => injection h with h; rw [h]
    | inr y => cases h
  | inr x => cases b with
    | inl j => cases h
    | inr y =>
      injection h with h
      obtain ⟨⟨l⟩⟩ := x
      obtain ⟨⟨k⟩⟩ := y
      have e : l = k := h
      rw [e]
def RK (g : G) (m : Mp) (H : Hp) : List (D × D) → List (Key × V) → Prop := Paired fun p q => p.1 = kD q.1 ∧ RD g m H p.2 q.2
def RT (g : G) (m : Mp) (H : Hp) : List (D × D) → List (List Key × V) → Prop := Paired fun p q => p.1 = .tup (q.1.map kD) ∧ RD g m H p.2 q.2
def RF (g : G) (m : Mp) (H : Hp) : List (Nat × D) → List (Str × V) → Prop := Paired fun p q => g.nm p.1 = some q.1 ∧ RD g m H p.2 q.2
theorem RK.mono (e : Ext m m' H H') {ps : List (D × D)} {qs : List (Key × V)} (h : RK g m H ps qs) : RK g m' H' ps qs := Paired.mapP h fun _ _ z => ⟨z.1, RD.mono e _ _ z.2⟩
theorem RT.mono (e : Ext m m' H H') {ps : List (D × D)} {qs : List (List Key × V)} (h : RT g m H ps qs) : RT g m' H' ps qs := Paired.mapP h fun _ _ z => ⟨z.1, RD.mono e _ _ z.2⟩
theorem RF.mono (e : Ext m m' H H') {ps : List (Nat × D)} {qs : List (Str × V)} (h : RF g m H ps qs) : RF g m' H' ps qs := Paired.mapP h fun _ _ z => ⟨z.1, RD.mono e _ _ z.2⟩
def KL (K : PySem.W.Frag) (a : Addr) (vs : List V) : Prop := ∃ (o : Obj) (its : Array Value) (n : Nat), K.lookup a = some o ∧ o.cls = .type "list" ∧ o.dict = none ∧ o.data = .seq its n ∧ its.size ≤ sizeLine ∧ Vals vs its.toList
def RO (g : G) (m : Mp) (H : Hp) (a : Addr) : O → Prop
  | .lst ds => ∃ vs, H a = some (.lst vs) ∧ RDs g m H ds vs
  | .fro ds => ∃ vs, ((∃ o, H a = some (.frz o (.lst vs))) ∨ KL g.K a vs) ∧ RDs g m H ds vs
  | .dic kvs => ∃ ps, H a = some (.dK ps) ∧ RK g m H kvs ps
  | .ins c fs => ∃ dx vs, H a = some (.ins (g.ca c) dx vs) ∧ RF g m H fs vs ∧ g.okc c = true
def isFro : Option O → Bool
  | some (.fro _) => true
  | _ => false
theorem RO.mono (e : Ext m m' H H') {a : Addr} (k : ∀ u, H a = some u → H' a = some u) : ∀ {o : O}, RO g m H a o → RO g m' H' a o
  | .lst ds, ⟨vs, h1, h2⟩ => ⟨vs, k _ h1, RDs.mono e _ _ h2⟩
  | .fro ds, ⟨vs, h1, h2⟩ => ⟨vs, h1.elim (fun ⟨o, z⟩ => .inl ⟨o, k _ z⟩) .inr, RDs.mono e _ _ h2⟩
  | .dic kvs, ⟨ps, h1, h2⟩ => ⟨ps, k _ h1, h2.mono e⟩
  | .ins c fs, ⟨dx, vs, h1, h2, h3⟩ => ⟨dx, vs, k _ h1, h2.mono e, h3⟩
theorem RO.mut {a : Addr} : ∀ {o : O}, RO g m H a o → isFro (some o) = false → Mut (H a)
  | .lst ds, ⟨vs, h1, _⟩, _ => by rw [h1]; trivial
  | .fro ds, _, h => by cases h
  | .dic kvs, ⟨ps, h1, _⟩, _ => by rw [h1]; trivial
  | .ins c fs, ⟨dx, vs, h1, _⟩, _ => by rw [h1]; trivial
structure SR (g : G) (m : Mp) (H : Hp) (st : Store) : Prop where
  at_ : ∀ (h : Nat) (o : O), st[h]? = some o → ∃ a, m h = some a ∧ RO g m H a o
  dom : ∀ h : Nat, st.length ≤ h → m h = none
  inj : ∀ (h h' : Nat) (a : Addr), m h = some a → m h' = some a → isFro st[h]? = false → isFro st[h']? = false → h = h'
def put (m : Mp) (n : Nat) (p : Addr) : Mp := fun h => if h = n then some p else m h
theorem put_same {n : Nat} {p : Addr} : put m n p n = some p := if_pos rfl
theorem put_ne {n h : Nat} {p : Addr} (e : h ≠ n) : put m n p h = m h := if_neg e
theorem SR.lt {st : Store} (S : SR g m H st) {h : Nat} {a : Addr} (e : m h = some a) : h < st.length := by
  rcases Nat.lt_or_ge h st.length with z | z
  · exact z
  · rw [S.dom h z] at e
    cases e
theorem SR.get {st : Store} (S : SR g m H st) {h : Nat} {a : Addr} {o : O} (e : m h = some a) (q : st[h]? = some o) : RO g m H a o := by
  obtain ⟨b, e2, r⟩ := S.at_ h o q
  rw [e] at e2
  cases e2
  exact r
theorem ext_new {a : Addr} {u : HO} (n : H a = none) (k : ∀ h b, m h = some b → m' h = some b) : Ext m m' H (upd H a u) := by
  refine ⟨k, fun b xs r => ?_, fun b fs r => ?_⟩
  · have ne : b ≠ a := by
      rcases r with r | ⟨o, r⟩
      · exact ne_of_none r n
      · exact ne_of_none r n
    rcases r with r | ⟨o, r⟩
    · exact .inl (by rw [upd_ne ne]; exact r)
    · exact .inr ⟨o, by rw [upd_ne ne]; exact r⟩
  · rw [upd_ne (ne_of_none r n)]
    exact r
theorem ext_mut {a : Addr} {u : HO} (n : Mut (H a)) : Ext m m H (upd H a u) := by
  have ne : ∀ {b : Addr} {o : HO}, H b = some o → ¬ Mut (some o) → b ≠ a := fun {b o} r z q => by
    subst q
    rw [r] at n
    exact z n
  refine ⟨fun _ _ h => h, fun b xs r => ?_, fun b fs r => ?_⟩
  · rcases r with r | ⟨o, r⟩
    · exact .inl (by rw [upd_ne (ne r fun z => z)]; exact r)
    · exact .inr ⟨o, by rw [upd_ne (ne r fun z => z)]; exact r⟩
  · rw [upd_ne (ne r fun z => z)]
    exact r
theorem put_mm {st : Store} (S : SR g m H st) {p : Addr} : ∀ h b, m h = some b → put m st.length p h = some b := fun h b e => by
  rw [put_ne (Nat.ne_of_lt (S.lt e))]
  exact e
theorem upd_keep {p a : Addr} {u w : HO} (n : H p = none) (h : H a = some w) : upd H p u a = some w := by
  rw [upd_ne (ne_of_none h n)]
  exact h
theorem SR.fresh {st : Store} (S : SR g m H st) {p : Addr} {u : HO} (n : H p = none) : SR g m (upd H p u) st :=
  ⟨fun h o q => let ⟨a, e, r⟩ := S.at_ h o q; ⟨a, e, r.mono (ext_new n fun _ _ z => z) fun w z => upd_keep n z⟩, S.dom, S.inj⟩
theorem SR.alloc {st : Store} (S : SR g m H st) {p : Addr} {u : HO} {o : O} (n : H p = none) (hf : isFro (some o) = false) (r : RO g (put m st.length p) (upd H p u) p o) : SR g (put m st.length p) (upd H p u) (st ++ [o]) := by
  have old : ∀ {h : Nat}, h < st.length → (st ++ [o])[h]? = st[h]? := fun {h} l => by rw [List.getElem?_append_left l]
  refine ⟨fun h o' q => ?_, fun h l => ?_, fun h h' a e e' f f' => ?_⟩
  · by_cases l : h < st.length
    · rw [old l] at q
      obtain ⟨a, e, z⟩ := S.at_ h o' q
      exact ⟨a, put_mm S _ _ e, z.mono (ext_new n (put_mm S)) fun w z => upd_keep n z⟩
    · have q2 := (List.getElem?_eq_some_iff.mp q).1
      have e : h = st.length := by
        rw [List.length_append] at q2
        simp at q2
        omega
      subst e
      rw [List.getElem?_append_right (Nat.le_refl _)] at q
      simp at q
      subst q
      exact ⟨p, put_same, r⟩
  · rw [List.length_append] at l
    simp at l
    rw [put_ne (by omega)]
    exact S.dom h (by omega)
  · have cs : ∀ {h : Nat}, put m st.length p h = some a → isFro (st ++ [o])[h]? = false → (h = st.length ∧ a = p) ∨ (h < st.length ∧ m h = some a ∧ isFro st[h]? = false ∧ a ≠ p) := fun {h} e f => by
      by_cases l : h = st.length
      · subst l
        rw [put_same] at e
        exact .inl ⟨rfl, (Option.some.inj e).symm⟩
      · rw [put_ne l] at e
        have l2 := S.lt e
        rw [old l2] at f
        refine .inr ⟨l2, e, f, ?_⟩
        obtain ⟨b, e2, z⟩ := S.at_ h st[h] (List.getElem?_eq_getElem l2)
        rw [e] at e2
        cases e2
        have mu := z.mut (by rw [← List.getElem?_eq_getElem l2]; exact f)
        rintro rfl
        rw [n] at mu
        exact mu
    rcases cs e f with ⟨h1, h2⟩ | ⟨h1, h2, h3, h4⟩
    · rcases cs e' f' with ⟨k1, k2⟩ | ⟨k1, k2, k3, k4⟩
      · rw [h1, k1]
      · exact absurd h2 k4
    · rcases cs e' f' with ⟨k1, k2⟩ | ⟨k1, k2, k3, k4⟩
      · exact absurd k2 h4
      · exact S.inj _ _ _ h2 k2 h3 k3
theorem SR.write {st : Store} (S : SR g m H st) {h : Nat} {a : Addr} {o o' : O} {u : HO} (e : m h = some a) (q : st[h]? = some o) (hf : isFro (some o) = false) (hf' : isFro (some o') = false) (r : RO g m (upd H a u) a o') : SR g m (upd H a u) (st.set h o') := by
  have l := S.lt e
  have mu := (S.get e q).mut hf
  have x : Ext m m H (upd H a u) := ext_mut mu
  have fr : ∀ k : Nat, isFro (st.set h o')[k]? = isFro st[k]? := fun k => by
    by_cases z : k = h
    · subst z
      rw [List.getElem?_set_self l, q, hf, hf']
    · rw [List.getElem?_set_ne (Ne.symm z)]
  refine ⟨fun k o2 q2 => ?_, fun k l2 => S.dom k (by simpa using l2), fun k k' b e1 e2 f1 f2 => S.inj k k' b e1 e2 (by rw [← fr]; exact f1) (by rw [← fr]; exact f2)⟩
  by_cases z : k = h
  · subst z
    rw [List.getElem?_set_self l] at q2
    cases q2
    exact ⟨a, e, r⟩
  · rw [List.getElem?_set_ne (Ne.symm z)] at q2
    obtain ⟨b, e2, w⟩ := S.at_ k o2 q2
    refine ⟨b, e2, ?_⟩
    cases f : isFro (some o2) with
    | false =>
      have ne : b ≠ a := by
        rintro rfl
        exact z (S.inj k h b e2 e (by rw [q2]; exact f) (by rw [q]; exact hf))
      exact w.mono x fun w' z' => by rw [upd_ne ne]; exact z'
    | true =>
      cases o2 with
      | fro ds =>
        obtain ⟨vs, h1, h2⟩ := w
        refine ⟨vs, ?_, RDs.mono x _ _ h2⟩
        rcases h1 with ⟨o, h1⟩ | h1
        · refine .inl ⟨o, ?_⟩
          rw [upd_ne]
          · exact h1
          · rintro rfl
            rw [h1] at mu
            exact mu
        · exact .inr h1
      | _ => cases f
def RX (g : G) (m : Mp) (H : Hp) (x : Exc) (cls : Value) (dx : Option Addr) : Prop :=
  cls = .ref (g.ca x.cls) ∧ g.oke x.cls = true ∧ ((x.fs = [] ∧ dx = none) ∨ ∃ d vs, dx = some d ∧ H d = some (.xd vs) ∧ RF g m H x.fs vs ∧ x.fs ≠ [])
theorem RX.mono (e : Ext m m' H H') {x : Exc} {cls : Value} {dx : Option Addr} (h : RX g m H x cls dx) : RX g m' H' x cls dx := by
  refine ⟨h.1, h.2.1, ?_⟩
  rcases h.2.2 with h | ⟨d, vs, h1, h2, h3⟩
  · exact .inl h
  · exact .inr ⟨d, vs, h1, e.xd _ _ h2, h3.1.mono e, h3.2⟩
structure ER (g : G) (m : Mp) (H : Hp) (σ : L2.St) (env : Env) : Prop where
  len : env.length = σ.length
  at_ : ∀ (i : Nat) (d : D), env[i]? = some (some d) → ∃ v, σ[i]? = some (some v) ∧ RD g m H d v
  cx : ∀ c : Cau, g.cx = some c → σ[c.slot]? = some (some (.ref c.ob)) ∧ RX g m H c.exc c.cls c.dx
def FreeC (g : G) (i : Nat) : Prop := ∀ c : Cau, g.cx = some c → c.slot ≠ i
theorem FreeC.of {g : G} (h : g.cx = none) (i : Nat) : FreeC g i := fun c e => by rw [h] at e; cases e
theorem ER.mono (e : Ext m m' H H') {σ : L2.St} {env : Env} (h : ER g m H σ env) : ER g m' H' σ env :=
  ⟨h.len, fun i d q => let ⟨v, h1, h2⟩ := h.at_ i d q; ⟨v, h1, RD.mono e d v h2⟩, fun c q => ⟨(h.cx c q).1, (h.cx c q).2.mono e⟩⟩
theorem ER.set {σ : L2.St} {env : Env} (h : ER g m H σ env) {d : D} {v : V} (i : Nat) (fr : FreeC g i) (r : RD g m H d v) : ER g m H (σ.set i (some v)) (env.set i (some d)) := by
  refine ⟨by simp [h.len], fun j d' q => ?_, fun c q => ⟨by rw [List.getElem?_set_ne (Ne.symm (fr c q))]; exact (h.cx c q).1, (h.cx c q).2⟩⟩
  by_cases z : j = i
  · subst z
    have l := (List.getElem?_eq_some_iff.mp q).1
    rw [List.length_set] at l
    rw [List.getElem?_set_self l] at q
    cases q
    exact ⟨v, by rw [List.getElem?_set_self (by rw [← h.len]; exact l)], r⟩
  · rw [List.getElem?_set_ne (Ne.symm z)] at q ⊢
    exact h.at_ j d' q
theorem ER.unset {σ : L2.St} {env : Env} (h : ER g m H σ env) (i : Nat) (fr : FreeC g i) : ER g m H (σ.set i none) (env.set i none) := by
  refine ⟨by simp [h.len], fun j d' q => ?_, fun c q => ⟨by rw [List.getElem?_set_ne (Ne.symm (fr c q))]; exact (h.cx c q).1, (h.cx c q).2⟩⟩
  by_cases z : j = i
  · subst z
    have l := (List.getElem?_eq_some_iff.mp q).1
    rw [List.length_set] at l
    rw [List.getElem?_set_self l] at q
    cases q
  · rw [List.getElem?_set_ne (Ne.symm z)] at q ⊢
    exact h.at_ j d' q
theorem ER.wipe {σ : L2.St} {env : Env} (h : ER g m H σ env) (fr : g.cx = none) : ∀ vs : List Nat, ER g m H (wipe σ vs) (wipeE env vs)
  | [] => h
  | v :: vs => (ER.wipe h fr vs).unset v (.of fr v)
end
def rE (g : G) (T : Tab) (C : Calls) (hx : Option Exc) (W : WX) (e : E) : TE := fun σ H Q => ∃ (m : Mp) (env : Env) (st : Store), SR g m H st ∧ ER g m H σ env ∧
  wpE T C hx e env st (fun d s => ∀ m' H' v, Ext m m' H H' → SR g m' H' s → RD g m' H' d v → Q v H') (fun x s => ∀ m' H' cls dx, Ext m m' H H' → SR g m' H' s → RX g m' H' x cls dx → W cls dx σ H')
def rT (g : G) (T : Tab) (C : Calls) (hx : Option Exc) (W : WX) (e : E) : TT := fun σ H Q => ∃ (m : Mp) (env : Env) (st : Store), SR g m H st ∧ ER g m H σ env ∧
  wpT T C hx e env st (fun b s => ∀ m' H', Ext m m' H H' → SR g m' H' s → Q b H') (fun x s => ∀ m' H' cls dx, Ext m m' H H' → SR g m' H' s → RX g m' H' x cls dx → W cls dx σ H')
def rA (g : G) (T : Tab) (C : Calls) (hx : Option Exc) (W : WX) (as : A) : TA := fun σ H Q => ∃ (m : Mp) (env : Env) (st : Store), SR g m H st ∧ ER g m H σ env ∧
  wpA T C hx as env st (fun ds s => ∀ m' H' vs, Ext m m' H H' → SR g m' H' s → RDs g m' H' ds vs → Q vs H') (fun x s => ∀ m' H' cls dx, Ext m m' H H' → SR g m' H' s → RX g m' H' x cls dx → W cls dx σ H')
theorem PE.weak {X : Cx} {e : Expr} {t t' : TE} (h : PE X e t) (w : ∀ σ H Q, t' σ H Q → t σ H Q) : PE X e t' := ⟨fun pins s σ H Q I q => h.run pins s σ H Q I (w σ H Q q)⟩
theorem PT.weak {X : Cx} {e : Expr} {t t' : TT} (h : PT X e t) (w : ∀ σ H Q, t' σ H Q → t σ H Q) : PT X e t' := ⟨fun pins s σ H Q I q => h.run pins s σ H Q I (w σ H Q q)⟩
theorem PW.weak {X : Cx} {e : Expr} {t t' : TT} (h : PW X e t) (w : ∀ σ H Q, t' σ H Q → t σ H Q) : PW X e t' := ⟨fun wh pins s σ H Q I q => h.run wh pins s σ H Q I (w σ H Q q)⟩
theorem PA.weak {X : Cx} {e : List Expr} {t t' : TA} (h : PA X e t) (w : ∀ σ H Q, t' σ H Q → t σ H Q) : PA X e t' := ⟨fun pos pins s σ H Q I q => h.run pos pins s σ H Q I (w σ H Q q)⟩
theorem PS.weak {X : Cx} {e : Stmt} {t t' : TS} (h : PS X e t) (w : ∀ k σ H, t' k σ H → t k σ H) : PS X e t' := ⟨fun pins s σ H k I q => h.run pins s σ H k I (w k σ H q)⟩
theorem PSs.weak {X : Cx} {e : List Stmt} {t t' : TS} (h : PSs X e t) (w : ∀ k σ H, t' k σ H → t k σ H) : PSs X e t' := ⟨fun pins s σ H k I q => h.run pins s σ H k I (w k σ H q)⟩
end Y
set_option Elab.async false
set_option linter.all false
set_option maxRecDepth 100000
set_option maxHeartbeats 4000000
namespace Y
open PySem PySem.Spec PyProof.Rows L2
theorem tuple_mulS (l : Addr) (items : Array Value) (n : Nat) (dd : Option Addr) (sl : Array (Option Value)) (x : Int) (u : Tok) (c0 : (decide (x < -(2 ^ 63)) || decide (x ≥ 2 ^ 63)) = false) (c1 : (items.isEmpty || x == 1) = true) :
    Meets (Builtin.«tuple.__mul__» ⟨[.ref l, .int x u], []⟩) (fun _ R s => s.heap.get? l = some { cls := .type "tuple", dict := dd, data := .seq items n, slots := sl } ∧
      R (.ok (.ret (Value.ref l))) { s with heap := s.heap, toks := s.toks }) :=
  .of_wp fun prog w A R s h => by
    obtain ⟨hp, g, d, tk, os⟩ := s
    obtain ⟨hl, h⟩ := h
    have f1 := AutoSeq1.idx_int
    wp_walk using wpAny_loadPart' hl
    repeat (first
      | (refine wpAny_ite_false (decide_eq_false (by rw [c0]; exact Bool.false_ne_true)) ?_; wp_walk using wpAny_loadPart' hl)
      | (refine wpAny_ite_true (decide_eq_true (by rw [c1])) ?_; wp_walk using wpAny_loadPart' hl))
    exact ⟨_, rfl, h⟩
theorem tuple_mulN (l : Addr) (items : Array Value) (n : Nat) (dd : Option Addr) (sl : Array (Option Value)) (x : Int) (u : Tok) (c0 : (decide (x < -(2 ^ 63)) || decide (x ≥ 2 ^ 63)) = false) (c1 : (items.isEmpty || x == 1) = false) (c2 : (decide (x ≤ 0) || items.isEmpty) = true) :
    Meets (Builtin.«tuple.__mul__» ⟨[.ref l, .int x u], []⟩) (fun _ R s => s.heap.get? l = some { cls := .type "tuple", dict := dd, data := .seq items n, slots := sl } ∧
      R (.ok (.ret (Value.ref s.heap.objs.size))) { s with heap := s.heap.push { cls := Value.type "tuple", data := Data.seq #[] }, toks := s.toks }) :=
  .of_wp fun prog w A R s h => by
    obtain ⟨hp, g, d, tk, os⟩ := s
    obtain ⟨hl, h⟩ := h
    have f1 := AutoSeq1.idx_int
    wp_walk using wpAny_loadPart' hl
    repeat (first
      | (refine wpAny_ite_false (decide_eq_false (by rw [c0]; exact Bool.false_ne_true)) ?_; wp_walk using wpAny_loadPart' hl)
      | (refine wpAny_ite_false (decide_eq_false (by rw [c1]; exact Bool.false_ne_true)) ?_; wp_walk using wpAny_loadPart' hl)
      | (refine wpAny_ite_true (decide_eq_true (by rw [c2])) ?_; wp_walk using wpAny_loadPart' hl))
    exact ⟨_, rfl, h⟩
theorem fold_app (x : Array Nat) : ∀ (n : Nat) (acc : Array Nat), ((List.replicate n x).foldl (· ++ ·) acc).toList = acc.toList ++ (List.replicate n x.toList).flatten
  | 0, acc => by simp
  | n + 1, acc => by
    rw [List.replicate_succ, List.foldl_cons, fold_app x n, List.replicate_succ, List.flatten_cons, Array.toList_append, List.append_assoc]
def rMulS : R2 := fun x y H Q => ∃ (a : Str) (k : Int), x = .str a ∧ y = .int k ∧ -(2 ^ 63) ≤ k ∧ k < 2 ^ 63 ∧ a.length * k.toNat ≤ sizeLine ∧ Q (.str ⟨(List.replicate k.toNat a.cps.toList).flatten.toArray⟩) H
theorem op_mulS {X : Cx} : OpR X (binaryOp .Mult) rMulS := by
  intro pins s σ H x y v u Q I rx ry h
  obtain ⟨a, k, rfl, rfl, h1, h2, hz, q⟩ := h
  obtain ⟨t, rfl⟩ := rx
  obtain ⟨t', rfl⟩ := ry
  have c0 : (decide (k < -(2 ^ 63 : Int)) || decide (k ≥ 2 ^ 63)) = false := by
    rw [decide_eq_false (by omega), decide_eq_false (by omega)] <;> rfl
  have tl : PySem.Builtin.Str.tooLong (a.length * k.toNat) = false := decide_eq_false (by omega)
  refine PySem.P.mul_str c0 (fun n1 _ => ?_) (fun _ _ => tl) ?_
  · have k1 : 0 < k := by omega
    have : (a.length : Int) * k ≤ 2 ^ 63 - 1 := by
      have e : ((a.length * k.toNat : Nat) : Int) = (a.length : Int) * k := by rw [Int.natCast_mul, Int.toNat_of_nonneg (by omega)]
      have s1 : sizeLine ≤ 2 ^ 63 - 1 := by decide
      omega
    exact Int.not_lt.mpr ((Int.le_ediv_iff_mul_le k1).mpr this)
  · split
    · rename_i n1
      have e : k.toNat = 0 := by omega
      rw [e] at q
      exact ⟨by decide, V.str Str.empty, H, I.tok _, ⟨_, rfl⟩, q⟩
    · split
      · rename_i n1 c
        rw [Bool.or_eq_true] at c
        refine ⟨V.str a, H, I, ⟨t, rfl⟩, ?_⟩
        rcases c with c | c
        · have : k = 1 := eq_of_beq c
          subst this
          have e : (⟨(List.replicate (1 : Int).toNat a.cps.toList).flatten.toArray⟩ : Str) = a := by
            rw [show (1 : Int).toNat = 1 from rfl, List.replicate_one, List.flatten_singleton]
          rwa [e] at q
        · have z : a.cps.size = 0 := eq_of_beq c
          have z2 : a.cps = #[] := Array.eq_empty_of_size_eq_zero z
          have e : (⟨(List.replicate k.toNat a.cps.toList).flatten.toArray⟩ : Str) = a := by
            obtain ⟨cps⟩ := a
            subst z2
            rw [List.flatten_replicate_nil]
          rwa [e] at q
      · have f := fold_app a.cps k.toNat #[]
        have e : (List.replicate k.toNat a.cps).foldl (· ++ ·) #[] = (List.replicate k.toNat a.cps.toList).flatten.toArray := by
          apply Array.toList_inj.mp
          rw [f]
          simp
        rw [e]
        refine ⟨?_, V.str _, H, I.tok _, ⟨_, rfl⟩, q⟩
        show (List.replicate k.toNat a.cps.toList).flatten.toArray.size ≤ sizeLine
        rw [List.size_toArray, PyProof.Rows.lm_len_rep_flat, Array.length_toList, Nat.mul_comm]
        exact hz
def rMulT (K : PySem.W.Frag) : R2 := fun x y H Q => ∃ l k xs, x = .ref l ∧ y = .int k ∧ SqT K H l xs ∧ -(2 ^ 63) ≤ k ∧ k < 2 ^ 63 ∧ xs.length * k.toNat ≤ sizeLine ∧ (xs = [] ∨ k = 1 → Q (.ref l) H) ∧ (xs ≠ [] → k ≠ 1 → ∀ p, H p = none → Q (.ref p) (upd H p (.tup (List.replicate k.toNat xs).flatten)))
section
variable {X : Cx}
theorem op_mulT : OpR X (binaryOp .Mult) (rMulT X.K) := by
  intro pins s σ H x y v u Q I rx ry h
  obtain ⟨l, k, xs, rfl, rfl, hT, h1, h2, hz, q1, q2⟩ := h
  cases rx
  obtain ⟨t, rfl⟩ := ry
  obtain ⟨its, r, ⟨⟨cls, dd, data, sl⟩, ho, hc, n, hd⟩, hs⟩ := I.tuple hT
  simp only at hc hd
  subst hc hd
  have hle : its.length = xs.length := r.length.symm
  have hsz0 : its.toArray.size = xs.length := by rw [List.size_toArray, hle]
  have hi : its.toArray.isEmpty = decide (xs = []) := by
    cases its with
    | nil => rw [List.eq_nil_of_length_eq_zero (l := xs) hle.symm]; rfl
    | cons a b =>
      have : ¬ xs = [] := fun e => by rw [e] at hle; cases hle
      rw [decide_eq_false this]; rfl
  have flen : (List.replicate k.toNat its).flatten.length ≤ sizeLine := by
    rw [PyProof.Rows.lm_len_rep_flat, hle, Nat.mul_comm]
    exact hz
  have c0 : (decide (k < -(2 ^ 63)) || decide (k ≥ 2 ^ 63)) = false := by
    rw [decide_eq_false (by omega), decide_eq_false (by omega)] <;> rfl
  by_cases e1 : xs = [] ∨ k = 1
  · have c1 : (its.toArray.isEmpty || k == 1) = true := by
      rw [hi]
      rcases e1 with e | e
      · rw [decide_eq_true e]; rfl
      · rw [e]; simp
    refine wpAny_binaryOp_repeat_ref (T := "tuple") (U := "int") (by decide) ⟨_, ho, rfl⟩ (fun s' => typeIs_int s' k t) noFill_tuple_mul F.fills_int_mul F.slot_int_rmul repeat_tuple F.slot_int_index.lookup
      (call_meets F.slot_int_rmul (typeIs_int s k t) F.entry_int_rmul (F.args_int_rmul_2 _ _) (int_rmul_tuple k t l its.toArray n dd sl)
        ⟨ho, rfl, ⟨_, ho, rfl⟩, call_meets F.slot_tuple_mul ⟨_, ho, rfl⟩ F.entry_tuple_mul (F.args_tuple_mul_2 _ _) (tuple_mulS l its.toArray n dd sl k t c0 c1) ⟨ho, ?_⟩⟩)
    exact ⟨.ref l, H, I, rfl, q1 e1⟩
  · have e0 : ¬ xs = [] := fun e => e1 (.inl e)
    have e2 : ¬ k = 1 := fun e => e1 (.inr e)
    have c1 : (its.toArray.isEmpty || k == 1) = false := by
      rw [hi, decide_eq_false e0, Bool.false_or]
      exact beq_eq_false_iff_ne.mpr e2
    have hi0 : its.toArray.isEmpty = false := by rw [hi, decide_eq_false e0]
    by_cases k0 : k ≤ 0
    · have c2 : (decide (k ≤ 0) || its.toArray.isEmpty) = true := by rw [decide_eq_true k0]; rfl
      have kn : k.toNat = 0 := by omega
      refine wpAny_binaryOp_repeat_ref (T := "tuple") (U := "int") (by decide) ⟨_, ho, rfl⟩ (fun s' => typeIs_int s' k t) noFill_tuple_mul F.fills_int_mul F.slot_int_rmul repeat_tuple F.slot_int_index.lookup
        (call_meets F.slot_int_rmul (typeIs_int s k t) F.entry_int_rmul (F.args_int_rmul_2 _ _) (int_rmul_tuple k t l its.toArray n dd sl)
          ⟨ho, rfl, ⟨_, ho, rfl⟩, call_meets F.slot_tuple_mul ⟨_, ho, rfl⟩ F.entry_tuple_mul (F.args_tuple_mul_2 _ _) (tuple_mulN l its.toArray n dd sl k t c0 c1 c2) ⟨ho, ?_⟩⟩)
      have q3 := q2 e0 e2
      rw [kn] at q3
      refine ⟨.ref s.heap.objs.size, _, I.laid (t' := s.toks) (o := .tup []) (fun b ob q => Heap.get?_push_of_some _ q) (Nat.le_refl _) ?_, rfl, q3 _ (I.hok.fresh (Nat.le_refl _))⟩
      exact ⟨Nat.zero_le _, [], .nil, IsTup.new _ _⟩
    · have c2 : (decide (k ≤ 0) || its.toArray.isEmpty) = false := by rw [hi0, Bool.or_false]; exact decide_eq_false k0
      have hm : ((its.toArray.size : Nat) : Int) * k ≤ (sizeLine : Int) := by
        rw [hsz0]
        have : ((xs.length * k.toNat : Nat) : Int) ≤ (sizeLine : Int) := Int.ofNat_le.mpr hz
        rwa [Int.natCast_mul, Int.toNat_of_nonneg (by omega)] at this
      have hcap : ¬ ((its.toArray.size : Nat) : Int) * k > (2 ^ 63 - 1) / 8 := by
        have : (sizeLine : Int) ≤ (2 ^ 63 - 1) / 8 := by decide
        omega
      have c4 : Builtin.Tuple.tupleTooMany (((its.toArray.size : Nat) : Int) * k) = false := by
        unfold Builtin.Tuple.tupleTooMany
        exact decide_eq_false (by omega)
      refine wpAny_binaryOp_repeat_ref (T := "tuple") (U := "int") (by decide) ⟨_, ho, rfl⟩ (fun s' => typeIs_int s' k t) noFill_tuple_mul F.fills_int_mul F.slot_int_rmul repeat_tuple F.slot_int_index.lookup
        (call_meets F.slot_int_rmul (typeIs_int s k t) F.entry_int_rmul (F.args_int_rmul_2 _ _) (int_rmul_tuple k t l its.toArray n dd sl)
          ⟨ho, rfl, ⟨_, ho, rfl⟩, call_meets F.slot_tuple_mul ⟨_, ho, rfl⟩ F.entry_tuple_mul (F.args_tuple_mul_2 _ _) (tuple_mulW l its.toArray n dd sl k t c0 c1 c2 hcap c4 (by rw [size_rep, List.size_toArray]; exact flen)) ⟨ho, ?_⟩⟩)
      rw [size_rep]
      refine ⟨.ref s.heap.objs.size, _, I.laid (t' := s.toks) (o := .tup (List.replicate k.toNat xs).flatten) (fun b ob q => Heap.get?_push_of_some _ q) (Nat.le_refl _) ?_, rfl, q2 e0 e2 _ (I.hok.fresh (Nat.le_refl _))⟩
      exact ⟨by rw [PyProof.Rows.lm_len_rep_flat, Nat.mul_comm]; exact hz, _, r.rep k.toNat, IsTup.new _ _⟩
end
end Y
set_option linter.all false
set_option maxHeartbeats 4000000
set_option maxRecDepth 100000
namespace Y
open PySem PySem.Spec PyProof.Rows L2
abbrev Wn (g : G) (m : Mp) (H : Hp) (Q : VK) : QE := fun d s => ∀ m' H' v, Ext m m' H H' → SR g m' H' s → RD g m' H' d v → Q v H'
section
variable {g : G} {m : Mp} {H : Hp} {st : Store} {Q : VK}
theorem Wn.here (S : SR g m H st) {d : D} {v : V} (r : RD g m H d v) (h : Wn g m H Q d st) : Q v H := h m H v (.refl _ _) S r
theorem Wn.int (S : SR g m H st) {i : Int} (h : Wn g m H Q (.int i) st) : Q (.int i) H := h m H _ (.refl _ _) S rfl
theorem Wn.str (S : SR g m H st) {x : List Nat} (h : Wn g m H Q (.str x) st) : Q (.str ⟨x.toArray⟩) H := h m H _ (.refl _ _) S rfl
theorem Wn.bl (S : SR g m H st) {b : Bool} (h : Wn g m H Q (.bl b) st) : Q (.bl b) H := h m H _ (.refl _ _) S rfl
theorem Wn.non (S : SR g m H st) (h : Wn g m H Q .non st) : Q .non H := h m H _ (.refl _ _) S rfl
theorem Wn.new (S : SR g m H st) {p : Addr} {u : HO} {o : O} (n : H p = none) (f : isFro (some o) = false) (r : RO g (put m st.length p) (upd H p u) p o) (h : Wn g m H Q (.ref st.length) (st ++ [o])) : Q (.ref p) (upd H p u) :=
  h _ _ _ (ext_new n (put_mm S)) (S.alloc n f r) ⟨p, rfl, put_same⟩
theorem Wn.tup (S : SR g m H st) {p : Addr} {ds : List D} {vs : List V} (n : H p = none) (r : RDs g m H ds vs) (h : Wn g m H Q (.tup ds) st) : Q (.ref p) (upd H p (.tup vs)) := by
  have x : Ext m m H (upd H p (.tup vs)) := ext_new n fun _ _ z => z
  exact h _ _ _ x (S.fresh n) ⟨p, vs, rfl, .inl (.inl upd_same), RDs.mono x _ _ r⟩
theorem Wn.wr (S : SR g m H st) {h : Nat} {a : Addr} {o o' : O} {u : HO} {d : D} {v : V} (e : m h = some a) (q : st[h]? = some o) (hf : isFro (some o) = false) (hf' : isFro (some o') = false) (r : RO g m (upd H a u) a o') (rd : RD g m H d v)
    (z : Wn g m H Q d (st.set h o')) : Q v (upd H a u) := by
  have x : Ext m m H (upd H a u) := ext_mut ((S.get e q).mut hf)
  exact z _ _ _ x (S.write e q hf hf' r) (RD.mono x _ _ rd)
theorem ro_lst {a : Addr} {n : Nat} {ds : List D} {vs : List V} (S : SR g m H st) (hn : H a = none) (r : RDs g m H ds vs) : RO g (put m st.length a) (upd H a (.lst vs)) a (.lst ds) := ⟨vs, upd_same, RDs.mono (ext_new hn (put_mm S)) _ _ r⟩
theorem Wn.wrl (S : SR g m H st) {h : Nat} {a : Addr} {ds ds' : List D} {us vs : List V} {d : D} {v : V} (e : m h = some a) (q : st[h]? = some (.lst ds)) (h1 : H a = some (.lst us)) (z : Wn g m H Q d (st.set h (.lst ds'))) (rd : RD g m H d v) (r : RDs g m H ds' vs) : Q v (upd H a (.lst vs)) :=
  Wn.wr (o' := .lst ds') S e q rfl rfl ⟨vs, upd_same, RDs.mono (ext_mut (by rw [h1]; trivial)) _ _ r⟩ rd z
theorem Wn.newl (S : SR g m H st) {p : Addr} {ds : List D} {vs : List V} (n : H p = none) (z : Wn g m H Q (.ref st.length) (st ++ [.lst ds])) (r : RDs g m H ds vs) : Q (.ref p) (upd H p (.lst vs)) :=
  Wn.new (o := .lst ds) S n rfl (ro_lst (n := 0) S n r) z
theorem rd_int {i : Int} {v : V} (h : RD g m H (.int i) v) : v = .int i := h
theorem rd_str {x : List Nat} {v : V} (h : RD g m H (.str x) v) : v = .str ⟨x.toArray⟩ := h
theorem rd_bl {x : Bool} {v : V} (h : RD g m H (.bl x) v) : v = .bl x := h
theorem rd_non {v : V} (h : RD g m H .non v) : v = .non := h
theorem rd_tup {ds : List D} {v : V} (h : RD g m H (.tup ds) v) : ∃ a vs, v = .ref a ∧ SqT g.K H a vs ∧ RDs g m H ds vs := h
theorem rd_ref {h : Nat} {v : V} (r : RD g m H (.ref h) v) : ∃ a, v = .ref a ∧ m h = some a := r
theorem str_app (a b : List Nat) : ((⟨a.toArray⟩ : Str) ++ (⟨b.toArray⟩ : Str)) = ⟨(a ++ b).toArray⟩ := by
  show (⟨a.toArray ++ b.toArray⟩ : Str) = _
  rw [List.append_toArray]
theorem str_len (a : List Nat) : (⟨a.toArray⟩ : Str).length = a.length := by
  show a.toArray.size = a.length
  simp
theorem str_codes (x : Str) : (⟨x.cps.toList.toArray⟩ : Str) = x := by
  obtain ⟨⟨l⟩⟩ := x
  rfl
theorem at_ix {α : Type} {xs : List α} {i : Int} {j : Nat} {c : α} (h : ixOf xs.length i = some j) (e : xs[j]? = some c) : atI xs i = some c := by
  show (ixN xs.length i).bind (fun j => xs[j]?) = some c
  have q : ixN xs.length i = some j := h
  rw [q]
  exact e
theorem SR.sqL (S : SR g m H st) {h : Nat} {a : Addr} {ds : List D} (e : m h = some a) (q : st[h]? = some (.lst ds) ∨ st[h]? = some (.fro ds)) : ∃ vs, SqL g.K H a vs ∧ RDs g m H ds vs := by
  rcases q with q | q
  · obtain ⟨vs, h1, h2⟩ := S.get e q
    exact ⟨vs, SqL.of h1, h2⟩
  · obtain ⟨vs, h1, h2⟩ := S.get e q
    refine ⟨vs, ?_, h2⟩
    rcases h1 with ⟨o, h1⟩ | h1
    · exact .inl (.inr ⟨o, h1⟩)
    · exact .inr h1
theorem SR.lst (S : SR g m H st) {h : Nat} {a : Addr} {ds : List D} (e : m h = some a) (q : st[h]? = some (.lst ds)) : ∃ vs, H a = some (.lst vs) ∧ RDs g m H ds vs := S.get e q
end
theorem RDs.nil2 {g : G} {m : Mp} {H : Hp} : ∀ {ds : List D}, RDs g m H ds [] → ds = []
  | [], _ => rfl
  | _ :: _, h => by obtain ⟨v, r, e, _⟩ := h; cases e
section
variable {X : Cx} {g : G}
def opR : Op → Operator
  | .add => .Add | .sub => .Sub | .mul => .Mult | .fdiv => .FloorDiv | .mod => .Mod | .pow => .Pow
def rBin (g : G) (o : Op) : R2 := fun x y H Q => ∃ m st dx dy, SR g m H st ∧ RD g m H dx x ∧ RD g m H dy y ∧ binQ st o dx dy (Wn g m H Q)
theorem op_bin (hK : X.K = g.K) (o : Op) : OpR X (binaryOp (opR o)) (rBin g o) := by
  intro pins s σ H x y v u Q I rx ry h
  obtain ⟨m, st, dx, dy, S, hx, hy, h⟩ := h
  unfold binQ at h
  split at h
  · cases rd_int hx
    cases rd_int hy
    exact op_add pins s σ H _ _ v u Q I rx ry ⟨_, _, rfl, rfl, Wn.int S h⟩
  · cases rd_str hx
    cases rd_str hy
    exact op_add_str pins s σ H _ _ v u Q I rx ry ⟨_, _, rfl, rfl, by rw [str_len, str_len]; exact h.1, by rw [str_app]; exact Wn.str S h.2⟩
  · obtain ⟨a, vs, rfl, h1, h2⟩ := rd_tup hx
    obtain ⟨b, ws, rfl, k1, k2⟩ := rd_tup hy
    rw [← hK] at h1 k1
    refine op_catA pins s σ H _ _ v u Q I rx ry ⟨a, b, vs, ws, rfl, rfl, h1, k1, by rw [h2.length, k2.length]; exact h.1, fun e => ?_, fun _ e => ?_, fun _ _ p n => ?_⟩
    · subst e
      refine Wn.here S ?_ h.2
      refine ⟨b, ws, rfl, hK ▸ k1, ?_⟩
      have := h2.app k2
      exact this
    · subst e
      refine Wn.here S ?_ h.2
      refine ⟨a, vs, rfl, hK ▸ h1, ?_⟩
      have := h2.app k2
      rw [List.append_nil] at this
      exact this
    · exact Wn.tup S n (h2.app k2) h.2
  · split at h
    · rename_i e1 e2
      obtain ⟨a, rfl, ha⟩ := rd_ref hx
      obtain ⟨b, rfl, hb⟩ := rd_ref hy
      obtain ⟨vs, h1, h2⟩ := S.lst ha e1
      obtain ⟨ws, k1, k2⟩ := S.lst hb e2
      refine op_cat pins s σ H _ _ v u Q I rx ry ⟨a, b, vs, ws, rfl, rfl, h1, k1, by rw [h2.length, k2.length]; exact h.1, fun p n => ?_⟩
      exact Wn.new S n rfl (ro_lst (n := 0) S n (h2.app k2)) h.2
    · exact h.elim
  · cases rd_int hx
    cases rd_int hy
    exact op_sub pins s σ H _ _ v u Q I rx ry ⟨_, _, rfl, rfl, Wn.int S h⟩
  · cases rd_int hx
    cases rd_int hy
    exact op_mul pins s σ H _ _ v u Q I rx ry ⟨_, _, rfl, rfl, h.1, Wn.int S h.2⟩
  · obtain ⟨a, vs, rfl, h1, h2⟩ := rd_tup hx
    cases rd_int hy
    rw [← hK] at h1
    refine op_mulT pins s σ H _ _ v u Q I rx ry ⟨a, _, vs, rfl, rfl, h1, h.1, h.2.1, by rw [h2.length]; exact h.2.2.1, fun e => ?_, fun _ _ p n => ?_⟩
    · refine Wn.here S ?_ h.2.2.2
      refine ⟨a, vs, rfl, hK ▸ h1, ?_⟩
      rcases e with e | e
      · subst e
        rw [RDs.nil2 h2, List.flatten_replicate_nil]
        exact RDs.nil
      · subst e
        rw [show (1 : Int).toNat = 1 from rfl, List.replicate_one, List.flatten_singleton]
        exact h2
    · exact Wn.tup S n (h2.rep _) h.2.2.2
  · cases rd_str hx
    cases rd_int hy
    refine op_mulS pins s σ H _ _ v u Q I rx ry ⟨_, _, rfl, rfl, h.1, h.2.1, ?_, ?_⟩
    · rw [str_len]
      exact Nat.le_trans h.2.2.1 (by decide)
    · exact Wn.str S h.2.2.2
  · split at h
    · rename_i e1
      obtain ⟨a, rfl, ha⟩ := rd_ref hx
      cases rd_int hy
      obtain ⟨vs, h1, h2⟩ := S.lst ha e1
      refine op_rep pins s σ H _ _ v u Q I rx ry ⟨a, _, vs, rfl, rfl, h1, h.1, h.2.1, by rw [h2.length]; exact h.2.2.1, fun p n => ?_⟩
      exact Wn.new S n rfl (ro_lst (n := 0) S n (h2.rep _)) h.2.2.2
    · exact h.elim
  · cases rd_int hx
    cases rd_int hy
    exact op_fdiv pins s σ H _ _ v u Q I rx ry ⟨_, _, rfl, rfl, ⟨h.1, h.2.1⟩, Wn.int S h.2.2⟩
  · cases rd_int hx
    cases rd_int hy
    exact op_mod pins s σ H _ _ v u Q I rx ry ⟨_, _, rfl, rfl, h.1, Wn.int S h.2⟩
  · cases rd_int hx
    cases rd_int hy
    exact op_pow pins s σ H _ _ v u Q I rx ry ⟨_, _, rfl, rfl, ⟨h.1, h.2.1, h.2.2.1⟩, Wn.int S h.2.2.2⟩
  · exact h.elim
structure KonAt (g : G) (T : Tab) (w : World) (k : Nat) : Prop where
  d : ∃ es n, KDict g.K w (g.ka k) es n
  at_ : ∀ x : List Nat, ∃ r, PySem.W.nsIn g.K (g.ka k) ⟨x.toArray⟩ = some r ∧ (match getC (T.kon k) (.str x) with
    | some d => ∃ u v, r = some u ∧ RelV v u ∧ ∀ m H, RD g m H d v
    | none => r = none)
  cls : ∃ o, g.K.lookup (g.ka k) = some o ∧ o.cls = .type "dict"
structure ClsAt (K : PySem.W.Frag) (C : Addr) : Prop where
  cl : Cls K C
  ha : PySem.W.findIn K (.ref C) "__class__" = some (some (.builtin "object.__class__"))
  hn : PySem.W.specialIn K (.builtin "object.__class__") "__get__" = some (some (.builtin "getset_descriptor.__get__"))
  htk : PySem.W.takesIn K (.builtin "object.__class__") = some true
  hm : PySem.W.mroIn K C (.type "object") = some true
def tyV1 (g : G) : Ty → Value
  | .int => .type "int" | .str => .type "str" | .bool => .type "bool" | .tuple => .type "tuple" | .list => .type "list" | .dict => .type "dict"
  | .own c => .ref (g.ca c)
structure Vf (g : G) (T : Tab) (w : World) : Prop where
  kon : ∀ k, T.kon k ≠ [] → KonAt g T w k
  nmi : ∀ f f' x, g.nm f = some x → g.nm f' = some x → f = f'
mutual
theorem dp_of {m : Mp} {H : Hp} {st : Store} (hK : X.K = g.K) (S : SR g m H st) : ∀ (n : Nat) (d : D) (v : V) (p : PyData), RD g m H d v → toP n st d = some p → Dp X.K H v p ∧ PyData.canLay0 p = true ∧ p.depth ≤ n
  | _, .non, v, p, r, e => by
    cases rd_non r
    unfold toP at e
    cases e
    exact ⟨.non, rfl, Nat.zero_le _⟩
  | _, .bl b, v, p, r, e => by
    cases rd_bl r
    unfold toP at e
    cases e
    exact ⟨.bl b, rfl, Nat.zero_le _⟩
  | _, .int i, v, p, r, e => by
    cases rd_int r
    unfold toP at e
    cases e
    exact ⟨.int i, rfl, Nat.zero_le _⟩
  | _, .str x, v, p, r, e => by
    cases rd_str r
    unfold toP at e
    split at e
    · rename_i z
      cases e
      refine ⟨.str _, ?_, Nat.zero_le _⟩
      show PyData.strOk ⟨x.toArray⟩ = true
      unfold PyData.strOk
      rw [← z]
      simp
    · cases e
  | 0, .tup ds, v, p, r, e => by
    unfold toP at e
    cases e
  | 0, .ref h, v, p, r, e => by
    unfold toP at e
    cases e
  | n + 1, .tup ds, v, p, r, e => by
    obtain ⟨a, vs, rfl, h1, h2⟩ := rd_tup r
    unfold toP at e
    obtain ⟨ps, e1, rfl⟩ := Option.map_eq_some_iff.mp e
    obtain ⟨q1, q2, q3⟩ := dps_of hK S n ds vs ps h2 e1
    exact ⟨.tup (hK ▸ h1) q1, q2, Nat.succ_le_succ q3⟩
  | n + 1, .ref h, v, p, r, e => by
    obtain ⟨a, rfl, ha⟩ := rd_ref r
    unfold toP at e
    split at e
    · rename_i ds e0
      obtain ⟨ps, e1, rfl⟩ := Option.map_eq_some_iff.mp e
      obtain ⟨vs, h1, h2⟩ := S.sqL ha (.inl e0)
      obtain ⟨q1, q2, q3⟩ := dps_of hK S n ds vs ps h2 e1
      exact ⟨.lst (hK ▸ h1) q1, q2, Nat.succ_le_succ q3⟩
    · rename_i ds e0
      obtain ⟨ps, e1, rfl⟩ := Option.map_eq_some_iff.mp e
      obtain ⟨vs, h1, h2⟩ := S.sqL ha (.inr e0)
      obtain ⟨q1, q2, q3⟩ := dps_of hK S n ds vs ps h2 e1
      exact ⟨.lst (hK ▸ h1) q1, q2, Nat.succ_le_succ q3⟩
    · cases e
  | 0, .kon k, v, p, r, e => by
    unfold toP at e
    cases e
  | n + 1, .kon k, v, p, r, e => by
    unfold toP at e
    cases e
theorem dps_of {m : Mp} {H : Hp} {st : Store} (hK : X.K = g.K) (S : SR g m H st) : ∀ (n : Nat) (ds : List D) (vs : List V) (ps : List PyData), RDs g m H ds vs → ds.mapM (toP n st) = some ps → DpAll X.K H vs ps ∧ PyData.canLayAll0 ps = true ∧ PyData.depthAll ps ≤ n
  | n, [], vs, ps, r, e => by
    rw [show vs = [] from r]
    have e2 : some [] = some ps := e
    cases e2
    exact ⟨.nil, rfl, Nat.zero_le _⟩
  | n, d :: ds, vs, ps, r, e => by
    obtain ⟨v, ws, rfl, h1, h2⟩ := r
    rw [List.mapM_cons] at e
    obtain ⟨p, e1, e2⟩ := Option.bind_eq_some_iff.mp e
    obtain ⟨qs, e3, e4⟩ := Option.bind_eq_some_iff.mp e2
    have e5 : some (p :: qs) = some ps := e4
    cases e5
    obtain ⟨q1, q2, q3⟩ := dp_of hK S n d v p h1 e1
    obtain ⟨k1, k2, k3⟩ := dps_of hK S n ds ws qs h2 e3
    exact ⟨.cons q1 k1, by show (PyData.canLay0 p && PyData.canLayAll0 qs) = true; rw [q2, k2]; rfl, Nat.max_le.mpr ⟨q3, k3⟩⟩
end
theorem shaped_of {p : PyData} (h1 : PyData.canLay0 p = true) (h2 : p.depth ≤ 60) : SeqAt.shaped p = true := by
  unfold SeqAt.shaped
  rw [h1]
  exact decide_eq_true (by omega)
def cmR : Cm → CmpOp
  | .eq => .Eq | .ne => .NotEq | .lt => .Lt | .le => .LtE | .gt => .Gt | .ge => .GtE | .inn => .In | .nin => .NotIn | .isb => .Is | .nsb => .IsNot | .deq => .Eq
theorem toA_inj {a b : List Nat} : (V.str ⟨a.toArray⟩ = V.str ⟨b.toArray⟩) ↔ a = b := by
  constructor
  · intro h
    injection h with h
    injection h with h
    simpa using congrArg Array.toList h
  · rintro rfl
    rfl
theorem eq_val (hK : X.K = g.K) (hu : X.A.units + 64 < cLine) {m : Mp} {H : Hp} {st : Store} {dx dy : D} {P : Bool → Prop} (S : SR g m H st) {x y : V} (hx : RD g m H dx x) (hy : RD g m H dy y) (h : eqQ st dx dy P) :
    ∃ b, P b ∧ ((scal x y = true ∧ b = decide (x = y)) ∨ ∃ d e, Dp X.K H x d ∧ Dp X.K H y e ∧ SeqAt.shaped d = true ∧ SeqAt.shaped e = true ∧ b = PyData.eqv d e) := by
  unfold eqQ at h
  split at h
  · cases rd_int hx
    cases rd_int hy
    exact ⟨_, h, .inl ⟨rfl, by simp⟩⟩
  · cases rd_str hx
    cases rd_str hy
    exact ⟨_, h, .inl ⟨rfl, by simp only [toA_inj]⟩⟩
  · cases rd_bl hx
    cases rd_bl hy
    exact ⟨_, h, .inl ⟨rfl, by simp⟩⟩
  · cases rd_non hx
    cases rd_non hy
    exact ⟨_, h, .inl ⟨rfl, by simp⟩⟩
  · cases rd_non hx
    cases rd_int hy
    exact ⟨_, h, .inl ⟨rfl, by simp⟩⟩
  · cases rd_int hx
    cases rd_non hy
    exact ⟨_, h, .inl ⟨rfl, by simp⟩⟩
  · cases rd_non hx
    cases rd_str hy
    exact ⟨_, h, .inl ⟨rfl, by simp⟩⟩
  · cases rd_str hx
    cases rd_non hy
    exact ⟨_, h, .inl ⟨rfl, by simp⟩⟩
  · cases rd_int hx
    cases rd_str hy
    exact ⟨_, h, .inl ⟨rfl, by simp⟩⟩
  · cases rd_str hx
    cases rd_int hy
    exact ⟨_, h, .inl ⟨rfl, by simp⟩⟩
  · obtain ⟨d, e, e1, e2, h⟩ := h
    obtain ⟨p1, p2, p3⟩ := dp_of hK S 60 _ _ _ hx e1
    obtain ⟨q1, q2, q3⟩ := dp_of hK S 60 _ _ _ hy e2
    exact ⟨_, h, .inr ⟨d, e, p1, q1, shaped_of p2 p3, shaped_of q2 q3, rfl⟩⟩
theorem flat_val {m : Mp} {H : Hp} {d : D} {v : V} (h : RD g m H d v) (f : flatD d = true) : flatV v = true := by
  cases d with
  | non => cases rd_non h; rfl
  | bl b => cases rd_bl h; rfl
  | int i => cases rd_int h; rfl
  | str x => cases rd_str h; rfl
  | _ => cases f
theorem flats_val {m : Mp} {H : Hp} : ∀ {ds : List D} {vs : List V}, RDs g m H ds vs → ds.all flatD = true → vs.all flatV = true
  | [], _, h, _ => by rw [show _ = [] from h]; rfl
  | d :: ds, _, h, f => by
    obtain ⟨v, r, rfl, h2, h3⟩ := h
    simp only [List.all_cons, Bool.and_eq_true] at f ⊢
    exact ⟨flat_val h2 f.1, flats_val h3 f.2⟩
theorem str_eqv (a b : List Nat) : ((⟨a.toArray⟩ : Str) == ⟨b.toArray⟩) = decide (a = b) := by
  rw [Bool.eq_iff_iff]
  constructor
  · intro h
    have e := eq_of_beq h
    injection e with e
    exact decide_eq_true (by simpa using congrArg Array.toList e)
  · intro h
    rw [of_decide_eq_true h]
    exact beq_self_eq_true _
theorem eqV_val {m : Mp} {H : Hp} {d e : D} {v w : V} (h : RD g m H d v) (h' : RD g m H e w) (f : flatD d = true) (f' : flatD e = true) : eqV v w = eqD d e := by
  cases d <;> first | (cases f; done) | skip
  all_goals cases e <;> first | (cases f'; done) | skip
  all_goals first
    | (cases rd_int h; cases rd_int h'; show (_ == _) = decide (_ = _); rw [Bool.beq_eq_decide_eq])
    | (cases rd_str h; cases rd_str h'; simp only [eqV, eqD, str_eqv])
    | (cases rd_bl h; cases rd_int h'; simp [eqV, eqD])
    | (cases rd_int h; cases rd_bl h'; simp [eqV, eqD])
    | (cases rd_bl h; cases rd_bl h'; simp [eqV, eqD])
    | (cases rd_non h; cases rd_non h'; rfl)
    | (cases rd_non h; first | (cases rd_int h'; rfl) | (cases rd_str h'; rfl) | (cases rd_bl h'; rfl))
    | (cases rd_int h; first | (cases rd_non h'; rfl) | (cases rd_str h'; rfl))
    | (cases rd_str h; first | (cases rd_non h'; rfl) | (cases rd_int h'; rfl) | (cases rd_bl h'; rfl))
    | (cases rd_bl h; first | (cases rd_non h'; rfl) | (cases rd_str h'; rfl))
theorem inV_val {m : Mp} {H : Hp} {d : D} {v : V} (h : RD g m H d v) (f : flatD d = true) : ∀ {ds : List D} {vs : List V}, RDs g m H ds vs → ds.all flatD = true → inV v vs = inD d ds
  | [], _, q, _ => by rw [show _ = [] from q]; rfl
  | e :: ds, _, q, fs => by
    obtain ⟨w, r, rfl, h2, h3⟩ := q
    simp only [List.all_cons, Bool.and_eq_true] at fs
    show (eqV w v || inV v r) = (eqD e d || inD d ds)
    rw [eqV_val h2 h fs.1 f, inV_val h f h3 fs.2]
theorem key_flat {m : Mp} {H : Hp} {k : Key} {v : V} (h : RD g m H (kD k) v) : v = kV k := by
  cases k with
  | inl i => exact rd_int h
  | inr x =>
    rw [rd_str h]
    show V.str ⟨x.cps.toList.toArray⟩ = V.str x
    rw [str_codes]
theorem keys_flat {m : Mp} {H : Hp} : ∀ {ks : List Key} {vs : List V}, RDs g m H (ks.map kD) vs → vs = ks.map kV
  | [], _, h => h
  | k :: ks, _, h => by
    obtain ⟨v, r, rfl, h2, h3⟩ := h
    rw [key_flat h2, keys_flat h3]
    rfl
theorem key_cases {d : D} (h : keyD d = true) : ∃ k : Key, d = kD k := by
  cases d with
  | int i => exact ⟨.inl i, rfl⟩
  | str x => exact ⟨.inr ⟨x.toArray⟩, by show D.str x = D.str x.toArray.toList; rw [List.toList_toArray]⟩
  | _ => cases h
theorem map_kD_inj : ∀ {a b : List Key}, a.map kD = b.map kD → a = b
  | [], [], _ => rfl
  | [], _ :: _, h => by cases h
  | _ :: _, [], h => by cases h
  | x :: xs, y :: ys, h => by
    injection h with h1 h2
    rw [kD_inj h1, map_kD_inj h2]
theorem rk_get {m : Mp} {H : Hp} {k : Key} : ∀ {kvs : List (D × D)} {ps : List (Key × V)}, RK g m H kvs ps → (match getK kvs (kD k) with
    | some d => ∃ v, valV ps k = some v ∧ RD g m H d v
    | none => valV ps k = none)
  | _, _, .nil => rfl
  | _, _, @Paired.cons _ _ _ p q l1 l2 h t => by
    have ih := rk_get (k := k) t
    by_cases e : q.1 = k
    · have e1 : p.1 = kD k := by rw [h.1, e]
      have g1 : getK (p :: l1) (kD k) = some p.2 := by simp [getK, List.find?_cons, e1]
      rw [g1]
      exact ⟨q.2, valV_pos e, h.2⟩
    · have e1 : ¬ p.1 = kD k := fun z => e (kD_inj (h.1.symm.trans z))
      have g1 : getK (p :: l1) (kD k) = getK l1 (kD k) := by simp [getK, List.find?_cons, e1]
      rw [g1, valV_neg e]
      exact ih
theorem rt_get {m : Mp} {H : Hp} {k : List Key} : ∀ {kvs : List (D × D)} {ps : List (List Key × V)}, RT g m H kvs ps → (match getK kvs (.tup (k.map kD)) with
    | some d => ∃ v, valV ps k = some v ∧ RD g m H d v
    | none => valV ps k = none)
  | _, _, .nil => rfl
  | _, _, @Paired.cons _ _ _ p q l1 l2 h t => by
    have ih := rt_get (k := k) t
    by_cases e : q.1 = k
    · have e1 : p.1 = .tup (k.map kD) := by rw [h.1, e]
      have g1 : getK (p :: l1) (.tup (k.map kD)) = some p.2 := by simp [getK, List.find?_cons, e1]
      rw [g1]
      exact ⟨q.2, valV_pos e, h.2⟩
    · have e1 : ¬ p.1 = .tup (k.map kD) := fun z => by
        have z2 := h.1.symm.trans z
        injection z2 with z2
        exact e (map_kD_inj z2)
      have g1 : getK (p :: l1) (.tup (k.map kD)) = getK l1 (.tup (k.map kD)) := by simp [getK, List.find?_cons, e1]
      rw [g1, valV_neg e]
      exact ih
theorem rt_flat {m : Mp} {H : Hp} {k : Key} : ∀ {kvs : List (D × D)} {ps : List (List Key × V)}, RT g m H kvs ps → getK kvs (kD k) = none
  | _, _, .nil => rfl
  | _, _, @Paired.cons _ _ _ p q l1 l2 h t => by
    have e1 : ¬ p.1 = kD k := fun z => by
      rw [h.1] at z
      cases k <;> cases z
    have g1 : getK (p :: l1) (kD k) = getK l1 (kD k) := by simp [getK, List.find?_cons, e1]
    rw [g1]
    exact rt_flat t
theorem rk_tup {m : Mp} {H : Hp} {k : List D} : ∀ {kvs : List (D × D)} {ps : List (Key × V)}, RK g m H kvs ps → getK kvs (.tup k) = none
  | _, _, .nil => rfl
  | _, _, @Paired.cons _ _ _ p q l1 l2 h t => by
    have e1 : ¬ p.1 = .tup k := fun z => by
      rw [h.1] at z
      have := q.1
      cases hq : q.1 <;> rw [hq] at z <;> cases z
    have g1 : getK (p :: l1) (.tup k) = getK l1 (.tup k) := by simp [getK, List.find?_cons, e1]
    rw [g1]
    exact rk_tup t
theorem d_look {m : Mp} {H : Hp} {st : Store} (S : SR g m H st) {h : Nat} {a : Addr} {kvs : List (D × D)} {dx : D} {x : V} (ha : m h = some a) (e0 : st[h]? = some (.dic kvs)) (hx : RD g m H dx x) (hk : keyD dx = true) :
    ∃ o, DGet H a x o ∧ (getK kvs dx).isSome = o.isSome ∧ ∀ d, getK kvs dx = some d → ∃ v, o = some v ∧ RD g m H d v := by
  obtain ⟨ps, h1, h2⟩ := S.get ha e0
  obtain ⟨k, rfl⟩ := key_cases hk
  rw [key_flat hx]
  have q := rk_get (k := k) h2
  refine ⟨valV ps k, DGet.k h1, ?_⟩
  cases e : getK kvs (kD k) with
  | none =>
    rw [e] at q
    exact ⟨by rw [show valV ps k = none from q]; rfl, fun d z => by cases z⟩
  | some d =>
    rw [e] at q
    obtain ⟨v, q1, q2⟩ := q
    exact ⟨by rw [q1]; rfl, fun d' z => by cases z; exact ⟨v, q1, q2⟩⟩
theorem rk_put {m : Mp} {H : Hp} {k : Key} {d : D} {v : V} (r : RD g m H d v) : ∀ {kvs : List (D × D)} {ps : List (Key × V)}, RK g m H kvs ps → RK g m H (putK kvs (kD k) d) (L2.putK ps k v) := by
  intro kvs ps h
  have any : ∀ {kvs : List (D × D)} {ps : List (Key × V)}, RK g m H kvs ps → (getK kvs (kD k)).isSome = (ps.any fun kv => decide (kv.1 = k)) := fun {kvs ps} h => by
    have q := rk_get (k := k) h
    rw [valV_any]
    cases e : getK kvs (kD k) with
    | none => rw [e] at q; rw [show valV ps k = none from q]; rfl
    | some d => rw [e] at q; obtain ⟨v, q1, _⟩ := q; rw [q1]; rfl
  unfold putK L2.putK
  rw [any h]
  cases ps.any fun kv => decide (kv.1 = k) with
  | true =>
    rw [if_pos rfl, if_pos rfl]
    clear any
    induction h with
    | nil => exact .nil
    | @cons p q l1 l2 hp t ih =>
      refine .cons ?_ ih
      by_cases e : q.1 = k
      · have e1 : p.1 = kD k := by rw [hp.1, e]
        dsimp only
        rw [if_pos e, if_pos e1]
        exact ⟨hp.1, r⟩
      · have e1 : ¬ p.1 = kD k := fun z => e (kD_inj (hp.1.symm.trans z))
        dsimp only
        rw [if_neg e, if_neg e1]
        exact hp
  | false =>
    rw [if_neg Bool.false_ne_true, if_neg Bool.false_ne_true]
    clear any
    induction h with
    | nil => exact .cons ⟨rfl, r⟩ .nil
    | cons hp t ih => exact .cons hp ih
theorem ix_dg (hu : X.A.units + 1 < cLine) : IxR X (fun x y H Q => ∃ a v, x = .ref a ∧ DGet H a y (some v) ∧ Q v H) := by
  intro value slice pins s σ H x y v u Q I rx ry h hs
  obtain ⟨a, w, rfl, dg, q⟩ := h
  cases (show v = Value.ref a from rx)
  have T := dict_typeIs I dg
  unfold subscriptTail
  refine wpAny_bind ?_
  rw [getitemInPython_of_ne T.not_modules]
  refine wpAny_bind (wpAny_specialOf T PySem.F.slot_dict_getitem.lookup ?_)
  have z : wpAny (model X.prog X.w) X.A (subscripted slice false (.ref a) u) (fun r s' => wpAny (model X.prog X.w) X.A (letTemporaryGo value (.ref a) r >>= fun _ => pure r) (EP X pins σ Q) X.xe s') X.xe s := by
    rw [hs]
    exact wpAny_operating (d_getItem hu I dg ry fun w' s' I' rw' => wpAny_bind (wpAny_letTemporaryGo (wpAny_pure ⟨w, H, I', rw', q⟩)))
  first
    | exact wpAny_pure (wpAny_bind z)
    | exact wpAny_bind (wpAny_pure (wpAny_bind z))
    | exact wpAny_bind z
theorem eqV_self {v : V} (f : flatV v = true) : eqV v v = true := by
  cases v <;> first | (cases f; done) | (simp [eqV]; done) | rfl
theorem paired_mem {α β : Type} {F : α → β → Prop} {xs : List α} {ys : List β} (h : Paired F xs ys) : ∀ y ∈ ys, ∃ x ∈ xs, F x y := by
  induction h with
  | nil => intro y m; cases m
  | cons r _ ih =>
    intro y m
    rcases List.mem_cons.mp m with z | z
    · exact ⟨_, List.mem_cons_self, z ▸ r⟩
    · obtain ⟨x, m2, q⟩ := ih y z
      exact ⟨x, List.mem_cons_of_mem _ m2, q⟩
section
variable {pins : List (Addr × Obj)} {σ : L2.St} {H : Hp} {s : Shared} {m : Mp} {st : Store}
theorem rds_get {ds : List D} {vs : List V} {us : List Value} (r : RDs g m H ds vs) (q : Vals vs us) (j : Nat) (h1 : j < ds.length) (h2 : j < us.length) : ∃ v, RD g m H ds[j] v ∧ RelV v us[j] := by
  obtain ⟨v, e1, r1⟩ := r.get (List.getElem?_eq_getElem h1)
  obtain ⟨u, e2, r2⟩ := q.get e1
  rw [List.getElem?_eq_getElem h2] at e2
  cases e2
  exact ⟨v, r1, r2⟩
theorem eqR_same (hK : X.K = g.K) (I : Inv X pins σ H s) (S : SR g m H st) {n : Nat} {dx dy : D} {b : Bool} (h : EqR st n dx dy b) : ∀ {x : V}, RD g m H dx x → RD g m H dy x → b = true := by
  induction h with
  | flat f1 f2 =>
    intro x r1 r2
    rw [← eqV_val r1 r2 f1 f2]
    exact eqV_self (flat_val r1 f1)
  | same => intro _ _ _; rfl
  | tups _ ih =>
    intro x r1 r2
    obtain ⟨a, vs, rfl, h1, h2⟩ := rd_tup r1
    obtain ⟨a', ws, e, k1, k2⟩ := rd_tup r2
    cases e
    have e := I.tuple_inj (hK ▸ h1) (hK ▸ k1)
    subst e
    have l := h2.length.symm.trans k2.length
    rw [Bool.and_eq_true, List.all_eq_true]
    refine ⟨fun j mj => ?_, by rw [l]; exact beq_self_eq_true _⟩
    have hj := List.mem_range.mp mj
    obtain ⟨v, e1, q1⟩ := h2.get (List.getElem?_eq_getElem (show j < _ by omega))
    obtain ⟨v', e2, q2⟩ := k2.get (List.getElem?_eq_getElem (show j < _ by omega))
    rw [e1] at e2
    cases e2
    exact ih j (by omega) (by omega) q1 q2
  | lsts ne e1 e2 =>
    intro x r1 r2
    obtain ⟨a, rfl, ha⟩ := rd_ref r1
    obtain ⟨a', e, ha'⟩ := rd_ref r2
    cases e
    exact absurd (S.inj _ _ _ ha ha' (by rw [e1]; rfl) (by rw [e2]; rfl)) ne
  | lens ne e1 e2 =>
    intro x r1 r2
    obtain ⟨a, rfl, ha⟩ := rd_ref r1
    obtain ⟨a', e, ha'⟩ := rd_ref r2
    cases e
    exact absurd (S.inj _ _ _ ha ha' (by rw [e1]; rfl) (by rw [e2]; rfl)) ne
  | dics ne e1 e2 =>
    intro x r1 r2
    obtain ⟨a, rfl, ha⟩ := rd_ref r1
    obtain ⟨a', e, ha'⟩ := rd_ref r2
    cases e
    exact absurd (S.inj _ _ _ ha ha' (by rw [e1]; rfl) (by rw [e2]; rfl)) ne
theorem kv_is {ls : List (D × D)} {ps : List (Key × V)} {va : List (Key × Value)} (r : RK g m H ls ps) (q : KV ps va) (k : Key) : (valueAt va k).isSome = (getK ls (kD k)).isSome := by
  have a := q.val k
  have b := rk_get (k := k) r
  cases e : getK ls (kD k) with
  | none =>
    rw [e] at b
    rw [show valV ps k = none from b] at a
    cases e2 : valueAt va k with
    | none => rfl
    | some _ => rw [e2] at a; exact a.elim
  | some d =>
    rw [e] at b
    obtain ⟨v, b1, _⟩ := b
    rw [b1] at a
    cases e2 : valueAt va k with
    | none => rw [e2] at a; exact a.elim
    | some _ => rfl
theorem kv_all {ks : List (D × D)} {ps : List (Key × V)} {va : List (Key × Value)} (r : RK g m H ks ps) (q : KV ps va) (F : D → Bool) : (va.all fun p => F (kD p.1)) = ks.all fun p => F p.1 := by
  induction r generalizing va with
  | nil => cases q; rfl
  | cons h t ih =>
    cases q with
    | cons h2 t2 =>
      rw [List.all_cons, List.all_cons, ih t2, h.1, ← h2.1]
theorem eqR_tree (hK : X.K = g.K) (I : Inv X pins σ H s) (S : SR g m H st) {n : Nat} {dx dy : D} {b : Bool} (h : EqR st n dx dy b) : ∀ {x y : V} {v u : Value}, RD g m H dx x → RD g m H dy y → RelV x v → RelV y u → PySem.W.EqTree X.prog X.w s n v u b := by
  induction h with
  | flat f1 f2 =>
    intro x y v u r1 r2 q1 q2
    refine .leaf fun A _ => ?_
    rw [← eqV_val r1 r2 f1 f2]
    exact eqAt_V q1 q2 (flat_val r1 f1) (flat_val r2 f2)
  | same =>
    intro x y v u r1 r2 q1 q2
    obtain ⟨a, rfl, ha⟩ := rd_ref r1
    obtain ⟨a', rfl, ha'⟩ := rd_ref r2
    rw [ha] at ha'
    cases ha'
    cases (show v = Value.ref a from q1)
    cases (show u = Value.ref a from q2)
    exact .same
  | @tups n xs ys e hi ih =>
    intro x y v u r1 r2 q1 q2
    have r1' := r1
    obtain ⟨a, vs, rfl, h1, h2⟩ := rd_tup r1
    obtain ⟨a', ws, rfl, k1, k2⟩ := rd_tup r2
    cases (show v = Value.ref a from q1)
    cases (show u = Value.ref a' from q2)
    by_cases z : a = a'
    · subst z
      rw [eqR_same hK I S (.tups hi) r1' r2]
      exact .same
    · obtain ⟨us, v1, t1, _⟩ := I.tuple (hK ▸ h1)
      obtain ⟨zs, v2, t2, _⟩ := I.tuple (hK ▸ k1)
      have l1 : us.toArray.size = xs.length := by rw [List.size_toArray, ← v1.length, h2.length]
      have l2 : zs.toArray.size = ys.length := by rw [List.size_toArray, ← v2.length, k2.length]
      have T := PySem.W.EqTree.tuples (prog := X.prog) (w := X.w) (n := n) (e := e) z t1 t2 fun j j1 j2 => by
        obtain ⟨w1, p1, p2⟩ := rds_get h2 v1 j (by omega) (by simpa using j1)
        obtain ⟨w2, p3, p4⟩ := rds_get k2 v2 j (by omega) (by simpa using j2)
        have := ih j (by omega) (by omega) p1 p3 p2 p4
        simpa using this
      rw [l1, l2] at T
      exact T
  | @lsts n h g' xs ys e ne e1 e2 hl _ ih =>
    intro x y v u r1 r2 q1 q2
    obtain ⟨a, rfl, ha⟩ := rd_ref r1
    obtain ⟨a', rfl, ha'⟩ := rd_ref r2
    cases (show v = Value.ref a from q1)
    cases (show u = Value.ref a' from q2)
    have z : a ≠ a' := fun z => ne (S.inj _ _ _ ha (z ▸ ha') (by rw [e1]; rfl) (by rw [e2]; rfl))
    obtain ⟨vs, h1, h2⟩ := S.lst ha e1
    obtain ⟨ws, k1, k2⟩ := S.lst ha' e2
    obtain ⟨us, v1, t1, _⟩ := I.list (SqL.of h1)
    obtain ⟨zs, v2, t2, _⟩ := I.list (SqL.of k1)
    have l1 : us.toArray.size = xs.length := by rw [List.size_toArray, ← v1.length, h2.length]
    have l2 : zs.toArray.size = ys.length := by rw [List.size_toArray, ← v2.length, k2.length]
    have T := PySem.W.EqTree.lists (prog := X.prog) (w := X.w) (n := n) (e := e) z t1.isList t2.isList (by rw [l1, l2, hl]) fun j j1 j2 => by
      obtain ⟨w1, p1, p2⟩ := rds_get h2 v1 j (by omega) (by simpa using j1)
      obtain ⟨w2, p3, p4⟩ := rds_get k2 v2 j (by omega) (by simpa using j2)
      have := ih j (by omega) (by omega) p1 p3 p2 p4
      simpa using this
    rw [l1] at T
    exact T
  | @lens n h g' xs ys ne e1 e2 hl =>
    intro x y v u r1 r2 q1 q2
    obtain ⟨a, rfl, ha⟩ := rd_ref r1
    obtain ⟨a', rfl, ha'⟩ := rd_ref r2
    cases (show v = Value.ref a from q1)
    cases (show u = Value.ref a' from q2)
    have z : a ≠ a' := fun z => ne (S.inj _ _ _ ha (z ▸ ha') (by rw [e1]; rfl) (by rw [e2]; rfl))
    obtain ⟨vs, h1, h2⟩ := S.lst ha e1
    obtain ⟨ws, k1, k2⟩ := S.lst ha' e2
    obtain ⟨us, v1, t1, _⟩ := I.list (SqL.of h1)
    obtain ⟨zs, v2, t2, _⟩ := I.list (SqL.of k1)
    refine .listsLen z t1.isList t2.isList ?_
    rw [List.size_toArray, ← v1.length, h2.length, List.size_toArray, ← v2.length, k2.length]
    simpa using hl
  | @dics n h g' ks ls e ne e1 e2 _ ih =>
    intro x y v u r1 r2 q1 q2
    obtain ⟨a, rfl, ha⟩ := rd_ref r1
    obtain ⟨a', rfl, ha'⟩ := rd_ref r2
    cases (show v = Value.ref a from q1)
    cases (show u = Value.ref a' from q2)
    have z : a ≠ a' := fun z => ne (S.inj _ _ _ ha (z ▸ ha') (by rw [e1]; rfl) (by rw [e2]; rfl))
    obtain ⟨ps, h1, h2⟩ := S.get ha e1
    obtain ⟨qs, k1, k2⟩ := S.get ha' e2
    obtain ⟨_, ya, va, ra, da⟩ := (show ObjOk X.prog X.w H s.heap a (.dK ps) from I.hok a _ h1)
    obtain ⟨_, yb, vb, rb, db⟩ := (show ObjOk X.prog X.w H s.heap a' (.dK qs) from I.hok a' _ k1)
    have T := PySem.W.EqTree.dicts (prog := X.prog) (w := X.w) (n := n) (e := fun k => e (kD k)) z ya yb da db fun k v y mk hy => by
      obtain ⟨p, mp, p1, p2⟩ := paired_mem ra _ mk
      obtain ⟨d, md, d1, d2⟩ := paired_mem h2 p mp
      have a := rb.val k
      rw [hy] at a
      have b := rk_get (k := k) k2
      cases eg : getK ls (kD k) with
      | none =>
        rw [eg] at b
        rw [show valV qs k = none from b] at a
        exact a.elim
      | some du =>
        rw [eg] at b
        obtain ⟨w, b1, b2⟩ := b
        rw [b1] at a
        have pk : p.1 = k := p1
        have dk : d.1 = kD k := by rw [d1, pk]
        have := ih d md du (by rw [dk]; exact eg) d2 b2 p2 a
        rw [dk] at this
        exact this
    have l1 : va.length = ks.length := by rw [← ra.length, ← h2.length]
    have l2 : vb.length = ls.length := by rw [← rb.length, ← k2.length]
    have e3 : (va.all fun p => (valueAt vb p.1).isSome && e (kD p.1)) = ks.all fun p => (getK ls p.1).isSome && e p.1 := by
      rw [← kv_all h2 ra (fun d => (getK ls d).isSome && e d)]
      congr 1
      funext p
      rw [kv_is k2 rb]
    rw [l1, l2, e3] at T
    exact T
theorem op_deep (hK : X.K = g.K) (hu : X.A.units + 64 < cLine) (I : Inv X pins σ H s) (S : SR g m H st) {n : Nat} {dx dy : D} {b : Bool} (ln : n ≤ 60) (two : twoD dx dy = true) (h : EqR st n dx dy b) {x y : V} {v u : Value} (r1 : RD g m H dx x) (r2 : RD g m H dy y) (q1 : RelV x v) (q2 : RelV y u)
    {E Q : Value → Shared → Prop} (q : Q (.bool b) s) : wpAny (model X.prog X.w) X.A (compareOp .Eq v u) Q E s := by
  cases h with
  | flat f1 f2 => cases dx <;> first | (cases f1; done) | (cases two; done)
  | same => rw [show twoD _ _ = decide (_ ≠ _) from rfl] at two; simp at two
  | @tups n xs ys e hi =>
    obtain ⟨a, vs, rfl, h1, h2⟩ := rd_tup r1
    obtain ⟨a', ws, rfl, k1, k2⟩ := rd_tup r2
    cases (show v = Value.ref a from q1)
    cases (show u = Value.ref a' from q2)
    obtain ⟨us, v1, t1, _⟩ := I.tuple (hK ▸ h1)
    obtain ⟨zs, v2, t2, _⟩ := I.tuple (hK ▸ k1)
    have l1 : us.toArray.size = xs.length := by rw [List.size_toArray, ← v1.length, h2.length]
    have l2 : zs.toArray.size = ys.length := by rw [List.size_toArray, ← v2.length, k2.length]
    refine PySem.W.eq_tuplesT (n := n) (e := e) t1 t2 (fun j j1 j2 => ?_) (by omega) (by rw [l1, l2]; exact q)
    obtain ⟨w1, p1, p2⟩ := rds_get h2 v1 j (by omega) (by simpa using j1)
    obtain ⟨w2, p3, p4⟩ := rds_get k2 v2 j (by omega) (by simpa using j2)
    have := eqR_tree hK I S (hi j (by omega) (by omega)) p1 p3 p2 p4
    simpa using this
  | @lsts n h g' xs ys e ne e1 e2 hl hi =>
    obtain ⟨a, rfl, ha⟩ := rd_ref r1
    obtain ⟨a', rfl, ha'⟩ := rd_ref r2
    cases (show v = Value.ref a from q1)
    cases (show u = Value.ref a' from q2)
    obtain ⟨vs, h1, h2⟩ := S.lst ha e1
    obtain ⟨ws, k1, k2⟩ := S.lst ha' e2
    obtain ⟨us, v1, t1, _⟩ := I.list (SqL.of h1)
    obtain ⟨zs, v2, t2, _⟩ := I.list (SqL.of k1)
    have l1 : us.toArray.size = xs.length := by rw [List.size_toArray, ← v1.length, h2.length]
    have l2 : zs.toArray.size = ys.length := by rw [List.size_toArray, ← v2.length, k2.length]
    refine PySem.W.eq_listsT (n := n) (e := e) t1.isList t2.isList (by rw [l1, l2, hl]) (fun j j1 j2 => ?_) (by omega) (by rw [l1]; exact q)
    obtain ⟨w1, p1, p2⟩ := rds_get h2 v1 j (by omega) (by simpa using j1)
    obtain ⟨w2, p3, p4⟩ := rds_get k2 v2 j (by omega) (by simpa using j2)
    have := eqR_tree hK I S (hi j (by omega) (by omega)) p1 p3 p2 p4
    simpa using this
  | @lens n h g' xs ys ne e1 e2 hl =>
    obtain ⟨a, rfl, ha⟩ := rd_ref r1
    obtain ⟨a', rfl, ha'⟩ := rd_ref r2
    cases (show v = Value.ref a from q1)
    cases (show u = Value.ref a' from q2)
    obtain ⟨vs, h1, h2⟩ := S.lst ha e1
    obtain ⟨ws, k1, k2⟩ := S.lst ha' e2
    obtain ⟨us, v1, t1, _⟩ := I.list (SqL.of h1)
    obtain ⟨zs, v2, t2, _⟩ := I.list (SqL.of k1)
    refine SeqAt.RcAt.lists_lengths t1.isList t2.isList ?_ (by omega) _ _ _ _ q
    rw [List.size_toArray, ← v1.length, h2.length, List.size_toArray, ← v2.length, k2.length]
    simpa using hl
  | @dics n h g' ks ls e ne e1 e2 hi =>
    have T := eqR_tree hK I S (.dics ne e1 e2 hi) r1 r2 q1 q2
    obtain ⟨a, rfl, ha⟩ := rd_ref r1
    obtain ⟨a', rfl, ha'⟩ := rd_ref r2
    cases (show v = Value.ref a from q1)
    cases (show u = Value.ref a' from q2)
    obtain ⟨ps, h1, h2⟩ := S.get ha e1
    obtain ⟨qs, k1, k2⟩ := S.get ha' e2
    obtain ⟨_, ya, va, ra, da⟩ := (show ObjOk X.prog X.w H s.heap a (.dK ps) from I.hok a _ h1)
    obtain ⟨_, yb, vb, rb, db⟩ := (show ObjOk X.prog X.w H s.heap a' (.dK qs) from I.hok a' _ k1)
    have l1 : va.length = ks.length := by rw [← ra.length, ← h2.length]
    have l2 : vb.length = ls.length := by rw [← rb.length, ← k2.length]
    have e3 : (va.all fun p => (valueAt vb p.1).isSome && e (kD p.1)) = ks.all fun p => (getK ls p.1).isSome && e p.1 := by
      rw [← kv_all h2 ra (fun d => (getK ls d).isSome && e d)]
      congr 1
      funext p
      rw [kv_is k2 rb]
    refine PySem.W.eq_dictsT (n := n) (e := fun k => e (kD k)) ya yb da db (fun k v y mk hy => ?_) (by omega) (by rw [l1, l2, e3]; exact q)
    obtain ⟨p, mp, p1, p2⟩ := paired_mem ra _ mk
    obtain ⟨d, md, d1, d2⟩ := paired_mem h2 p mp
    have a := rb.val k
    rw [hy] at a
    have b := rk_get (k := k) k2
    cases eg : getK ls (kD k) with
    | none =>
      rw [eg] at b
      rw [show valV qs k = none from b] at a
      exact a.elim
    | some du =>
      rw [eg] at b
      obtain ⟨w, b1, b2⟩ := b
      rw [b1] at a
      have pk : p.1 = k := p1
      have dk : d.1 = kD k := by rw [d1, pk]
      have := eqR_tree hK I S (hi d md du (by rw [dk]; exact eg)) d2 b2 p2 a
      rw [dk] at this
      exact this
end
def rCmp (g : G) (T : Tab) (o : Cm) : R2 := fun x y H Q => ∃ m st dx dy, SR g m H st ∧ RD g m H dx x ∧ RD g m H dy y ∧ cmpQ T st o dx dy fun b => Q (.bl b) H
theorem in_val {T : Tab} (F : Vf g T X.w) (hK : X.K = g.K) {m : Mp} {H : Hp} {st : Store} {dx dy : D} {P : Bool → Prop} (S : SR g m H st) {x y : V} (hx : RD g m H dx x) (hy : RD g m H dy y) (h : inQ T st dx dy P) :
    ∃ b, P b ∧ ((∃ i j : Str, x = .str i ∧ y = .str j ∧ b = !(Builtin.Str.occurrences j i 0 j.length 1).isEmpty) ∨ (∃ p xs, y = .ref p ∧ (SqL X.K H p xs ∨ SqT X.K H p xs) ∧ flatV x = true ∧ xs.all flatV = true ∧ b = inV x xs) ∨
      (∃ d es n z r, KDict X.K X.w d es n ∧ x = .str z ∧ y = .ref d ∧ PySem.W.nsIn X.K d z = some r ∧ b = r.isSome) ∨ ∃ a o, y = .ref a ∧ DGet H a x o ∧ b = o.isSome) := by
  unfold inQ at h
  split at h
  · cases rd_str hx
    cases rd_str hy
    refine ⟨_, h, .inl ⟨_, _, rfl, rfl, ?_⟩⟩
    rw [str_len]
  · obtain ⟨h0, a, rfl, h⟩ := h
    rename_i k
    have y1 : y = .ref (g.ka k) := hy
    subst y1
    cases rd_str hx
    have KA := F.kon k h0
    obtain ⟨es, n, D1⟩ := KA.d
    obtain ⟨r, e1, e2⟩ := KA.at_ a
    refine ⟨_, h, .inr (.inr (.inl ⟨_, es, n, _, r, hK ▸ D1, rfl, rfl, by rw [hK]; exact e1, ?_⟩))⟩
    cases q : getC (T.kon k) (.str a) with
    | none =>
      rw [q] at e2
      rw [show r = none from e2]
      rfl
    | some d =>
      rw [q] at e2
      obtain ⟨u, v, rfl, _⟩ := e2
      rfl
  · obtain ⟨f1, f2, h⟩ := h
    obtain ⟨a, vs, rfl, h1, h2⟩ := rd_tup hy
    exact ⟨_, h, .inr (.inl ⟨a, vs, rfl, .inr (hK ▸ h1), flat_val hx f1, flats_val h2 f2, (inV_val hx f1 h2 f2).symm⟩)⟩
  · split at h
    · rename_i e0
      obtain ⟨f1, f2, h⟩ := h
      obtain ⟨a, rfl, ha⟩ := rd_ref hy
      obtain ⟨vs, h1, h2⟩ := S.sqL ha (.inl e0)
      exact ⟨_, h, .inr (.inl ⟨a, vs, rfl, .inl (hK ▸ h1), flat_val hx f1, flats_val h2 f2, (inV_val hx f1 h2 f2).symm⟩)⟩
    · rename_i e0
      obtain ⟨a, rfl, ha⟩ := rd_ref hy
      obtain ⟨o, dg, eo⟩ := d_look S ha e0 hx h.1
      exact ⟨_, h.2, .inr (.inr (.inr ⟨a, o, rfl, dg, eo.1⟩))⟩
    · exact h.elim
  · exact h.elim
theorem op_cm {T : Tab} (F : Vf g T X.w) (hK : X.K = g.K) (hu : X.A.units + 64 < cLine) (o : Cm) : OpR X (compareOp (cmR o)) (rCmp g T o) := by
  intro pins s σ H x y v u Q I rx ry h
  obtain ⟨m, st, dx, dy, S, hx, hy, h⟩ := h
  cases o
  · obtain ⟨b, q, e⟩ := eq_val hK hu S hx hy h
    rcases e with ⟨e1, e2⟩ | ⟨d, e, h1, h2, h3, h4, e5⟩
    · exact op_eq pins s σ H x y v u Q I rx ry ⟨e1, by rw [← e2]; exact q⟩
    · exact op_eqD hu pins s σ H x y v u Q I rx ry ⟨d, e, h1, h2, h3, h4, by rw [← e5]; exact q⟩
  · obtain ⟨b, q, e⟩ := eq_val hK hu S hx hy h
    rcases e with ⟨e1, e2⟩ | ⟨d, e, h1, h2, h3, h4, e5⟩
    · exact op_ne pins s σ H x y v u Q I rx ry ⟨e1, by rw [← e2]; exact q⟩
    · exact op_neD hu pins s σ H x y v u Q I rx ry ⟨d, e, h1, h2, h3, h4, by rw [← e5]; exact q⟩
  · unfold cmpQ at h
    dsimp only at h
    split at h
    · cases rd_int hx
      cases rd_int hy
      exact op_lt pins s σ H _ _ v u Q I rx ry ⟨_, _, rfl, rfl, h⟩
    · exact h.elim
  · unfold cmpQ at h
    dsimp only at h
    split at h
    · cases rd_int hx
      cases rd_int hy
      exact op_le pins s σ H _ _ v u Q I rx ry ⟨_, _, rfl, rfl, h⟩
    · exact h.elim
  · unfold cmpQ at h
    dsimp only at h
    split at h
    · cases rd_int hx
      cases rd_int hy
      exact op_gt pins s σ H _ _ v u Q I rx ry ⟨_, _, rfl, rfl, h⟩
    · exact h.elim
  · unfold cmpQ at h
    dsimp only at h
    split at h
    · cases rd_int hx
      cases rd_int hy
      exact op_ge pins s σ H _ _ v u Q I rx ry ⟨_, _, rfl, rfl, h⟩
    · exact h.elim
  · obtain ⟨b, q, e⟩ := in_val F hK S hx hy h
    rcases e with ⟨i, j, rfl, rfl, e⟩ | ⟨p, xs, rfl, h1, h2, h3, e⟩ | ⟨d, es, n, z, r, h1, rfl, rfl, h2, e⟩ | ⟨a, o, rfl, dg, e⟩
    · exact op_in_str pins s σ H _ _ v u Q I rx ry ⟨i, j, rfl, rfl, by rw [← e]; exact q⟩
    · exact op_in_seq pins s σ H _ _ v u Q I rx ry ⟨p, xs, rfl, h1, h2, h3, by rw [← e]; exact q⟩
    · exact op_in_kd h1 pins s σ H _ _ v u Q I rx ry ⟨z, r, rfl, rfl, h2, by rw [← e]; exact q⟩
    · cases (show u = Value.ref a from ry)
      exact d_in (by omega) I dg rx fun s' I' => ⟨.bl o.isSome, H, I', rfl, by rw [← e]; exact q⟩
  · obtain ⟨b, q, e⟩ := in_val F hK S hx hy h
    rcases e with ⟨i, j, rfl, rfl, e⟩ | ⟨p, xs, rfl, h1, h2, h3, e⟩ | ⟨d, es, n, z, r, h1, rfl, rfl, h2, e⟩ | ⟨a, o, rfl, dg, e⟩
    · exact op_notin_str pins s σ H _ _ v u Q I rx ry ⟨i, j, rfl, rfl, by rw [← e]; exact q⟩
    · exact op_notIn_seq pins s σ H _ _ v u Q I rx ry ⟨p, xs, rfl, h1, h2, h3, by rw [← e]; exact q⟩
    · exact op_notIn_kd h1 pins s σ H _ _ v u Q I rx ry ⟨z, r, rfl, rfl, h2, by rw [← e]; exact q⟩
    · cases (show u = Value.ref a from ry)
      exact d_notIn (by omega) I dg rx fun s' I' => ⟨.bl (!o.isSome), H, I', rfl, by rw [← e]; exact q⟩
  · unfold cmpQ at h
    dsimp only at h
    split at h
    · cases rd_bl hx
      cases rd_bl hy
      exact op_isBl pins s σ H _ _ v u Q I rx ry ⟨_, _, rfl, rfl, h⟩
    · exact h.elim
  · unfold cmpQ at h
    dsimp only at h
    split at h
    · cases rd_bl hx
      cases rd_bl hy
      exact op_notBl pins s σ H _ _ v u Q I rx ry ⟨_, _, rfl, rfl, h⟩
    · exact h.elim
  · obtain ⟨two, n, b, ln, h, q⟩ := h
    exact op_deep hK hu I S ln two h hx hy rx ry ⟨.bl b, H, I, rfl, q⟩
theorem tru_val (hK : X.K = g.K) {m : Mp} {H : Hp} {st : Store} {d : D} {v : V} {P : Bool → Prop} (S : SR g m H st) (r : RD g m H d v) (h : truQ st d P) : ∃ k, TruV X.K v H k ∧ P k := by
  unfold truQ at h
  split at h
  · cases rd_non r
    exact ⟨false, rfl, h⟩
  · cases rd_bl r
    exact ⟨_, rfl, h⟩
  · cases rd_int r
    exact ⟨_, rfl, h⟩
  · cases rd_str r
    rename_i x
    refine ⟨_, ⟨by rw [str_len]; exact h.1, ?_⟩, h.2⟩
    rw [str_len]
    cases x with
    | nil => rfl
    | cons c x =>
      show true = (((c :: x).length : Int) != 0)
      have : ((c :: x).length : Int) ≠ 0 := by
        rw [List.length_cons]
        omega
      exact (bne_iff_ne.mpr this).symm
  · obtain ⟨a, vs, rfl, h1, h2⟩ := rd_tup r
    refine ⟨_, .inr (.inl ⟨vs, hK ▸ h1, rfl⟩), ?_⟩
    have e := h2.length
    rename_i ds
    cases ds <;> cases vs <;> first | exact h | (simp at e)
  · split at h
    · rename_i ds e0
      obtain ⟨a, rfl, ha⟩ := rd_ref r
      obtain ⟨vs, h1, h2⟩ := S.sqL ha (.inl e0)
      refine ⟨_, .inl ⟨vs, hK ▸ h1, rfl⟩, ?_⟩
      have e := h2.length
      cases ds <;> cases vs <;> first | exact h | (simp at e)
    · exact h.elim
  · exact h.elim
def prV : Pr → Value
  | .len => .builtin "len" | .abs => .builtin "abs" | .max2 => .builtin "max" | .min2 => .builtin "min" | .any => .builtin "any" | .all => .builtin "all" | .sum => .builtin "sum" | .max => .builtin "max" | .min => .builtin "min"
  | .int => .type "int" | .str => .type "str" | .tuple => .type "tuple" | .list => .type "list" | .bool => .type "bool"
def rPr (g : G) (p : Pr) : List V → Hp → VK → Prop := fun xs H Q => ∃ m st ds, SR g m H st ∧ RDs g m H ds xs ∧ prQ p ds st (Wn g m H Q)
theorem bls_of {m : Mp} {H : Hp} : ∀ {bs : List Bool} {vs : List V}, RDs g m H (bs.map D.bl) vs → vs = bs.map V.bl
  | [], _, h => h
  | b :: bs, _, h => by
    obtain ⟨v, r, rfl, h2, h3⟩ := h
    cases rd_bl h2
    rw [bls_of h3]
    rfl
theorem call_ss : CallR X (.type "str") (fun xs H Q => ∃ a, xs = [.str a] ∧ Q (.str a) H) := by
  intro pins s σ H xs us Q I r h
  obtain ⟨a, rfl, q⟩ := h
  obtain ⟨u, rfl, t, rfl⟩ := vals1 r
  exact PySem.P.str_of_str ⟨.str a, H, I, ⟨t, rfl⟩, q⟩
theorem call_pr (hK : X.K = g.K) (hc : X.calm = true) (p : Pr) : CallR X (prV p) (rPr g p) := by
  intro pins s σ H xs us Q I r h
  obtain ⟨m, st, ds, S, hd, h⟩ := h
  unfold prQ at h
  split at h
  · obtain ⟨v, rfl, h1⟩ := hd.un1
    cases rd_str h1
    refine call_len pins s σ H _ us Q I r ⟨_, _, rfl, ⟨by rw [str_len]; exact h.1, rfl⟩, ?_⟩
    rw [str_len]
    exact Wn.int S h.2
  · obtain ⟨v, rfl, h1⟩ := hd.un1
    obtain ⟨a, vs, rfl, h2, h3⟩ := rd_tup h1
    refine call_len pins s σ H _ us Q I r ⟨_, _, rfl, .inr ⟨vs, hK ▸ h2, rfl⟩, ?_⟩
    rw [h3.length]
    exact Wn.int S h
  · obtain ⟨v, rfl, h1⟩ := hd.un1
    obtain ⟨a, rfl, ha⟩ := rd_ref h1
    split at h
    · rename_i e0
      obtain ⟨vs, h2, h3⟩ := S.sqL ha (.inl e0)
      refine call_len pins s σ H _ us Q I r ⟨_, _, rfl, .inl ⟨vs, hK ▸ h2, rfl⟩, ?_⟩
      rw [h3.length]
      exact Wn.int S h
    · rename_i e0
      obtain ⟨vs, h2, h3⟩ := S.sqL ha (.inr e0)
      refine call_len pins s σ H _ us Q I r ⟨_, _, rfl, .inl ⟨vs, hK ▸ h2, rfl⟩, ?_⟩
      rw [h3.length]
      exact Wn.int S h
    · rename_i e0
      obtain ⟨ps, h2, h3⟩ := S.get ha e0
      refine call_lenD pins s σ H _ us Q I r ⟨a, ps, rfl, h2, ?_⟩
      rw [← Paired.length h3]
      exact Wn.int S h
    · exact h.elim
  · obtain ⟨v, rfl, h1⟩ := hd.un1
    cases rd_int h1
    exact call_int1 pins s σ H _ us Q I r (.inl ⟨_, rfl, Wn.int S h⟩)
  · obtain ⟨v, rfl, h1⟩ := hd.un1
    cases rd_bl h1
    exact call_int1 pins s σ H _ us Q I r (.inr ⟨_, rfl, Wn.int S h⟩)
  · obtain ⟨v, rfl, h1⟩ := hd.un1
    cases rd_str h1
    obtain ⟨n, e1, e2, h⟩ := h
    exact call_int_str pins s σ H _ us Q I r ⟨_, n, rfl, e1, by rw [str_len]; exact e2, Wn.int S h⟩
  · obtain ⟨v, rfl, h1⟩ := hd.un1
    cases rd_int h1
    refine call_str_int pins s σ H _ us Q I r ⟨_, rfl, h.1, ?_⟩
    have q := Wn.str S h.2
    unfold decI at q
    rw [str_codes] at q
    exact q
  · obtain ⟨v, rfl, h1⟩ := hd.un1
    cases rd_str h1
    exact call_ss pins s σ H _ us Q I r ⟨_, rfl, Wn.str S h⟩
  · obtain ⟨v, rfl, h1⟩ := hd.un1
    cases rd_int h1
    exact call_abs pins s σ H _ us Q I r ⟨_, rfl, Wn.int S h⟩
  · obtain ⟨v, w, rfl, h1, h2⟩ := hd.two
    cases rd_int h1
    cases rd_int h2
    exact call_max2 hc pins s σ H _ us Q I r ⟨_, _, rfl, Wn.int S h⟩
  · obtain ⟨v, w, rfl, h1, h2⟩ := hd.two
    cases rd_int h1
    cases rd_int h2
    exact call_min2 hc pins s σ H _ us Q I r ⟨_, _, rfl, Wn.int S h⟩
  · obtain ⟨v, rfl, h1⟩ := hd.un1
    have h0 := h1
    obtain ⟨a, vs, rfl, h2, h3⟩ := rd_tup h1
    exact call_tuple_of pins s σ H _ us Q I r ⟨a, vs, rfl, .inr ⟨hK ▸ h2, Wn.here S h0 h⟩⟩
  · obtain ⟨v, rfl, h1⟩ := hd.un1
    obtain ⟨a, rfl, ha⟩ := rd_ref h1
    split at h
    · rename_i e0
      obtain ⟨vs, h2, h3⟩ := S.sqL ha (.inl e0)
      exact call_tuple_of pins s σ H _ us Q I r ⟨a, vs, rfl, .inl ⟨hK ▸ h2, fun p n => Wn.tup S n h3 h⟩⟩
    · rename_i e0
      obtain ⟨vs, h2, h3⟩ := S.sqL ha (.inr e0)
      exact call_tuple_of pins s σ H _ us Q I r ⟨a, vs, rfl, .inl ⟨hK ▸ h2, fun p n => Wn.tup S n h3 h⟩⟩
    · exact h.elim
  · obtain ⟨v, rfl, h1⟩ := hd.un1
    obtain ⟨a, vs, rfl, h2, h3⟩ := rd_tup h1
    exact call_list_of pins s σ H _ us Q I r ⟨a, vs, rfl, .inr (hK ▸ h2), fun p n => Wn.new S n rfl (ro_lst (n := 0) S n h3) h⟩
  · obtain ⟨v, rfl, h1⟩ := hd.un1
    obtain ⟨a, rfl, ha⟩ := rd_ref h1
    split at h
    · rename_i e0
      obtain ⟨vs, h2, h3⟩ := S.sqL ha (.inl e0)
      exact call_list_of pins s σ H _ us Q I r ⟨a, vs, rfl, .inl (hK ▸ h2), fun p n => Wn.new S n rfl (ro_lst (n := 0) S n h3) h⟩
    · rename_i e0
      obtain ⟨vs, h2, h3⟩ := S.sqL ha (.inr e0)
      exact call_list_of pins s σ H _ us Q I r ⟨a, vs, rfl, .inl (hK ▸ h2), fun p n => Wn.new S n rfl (ro_lst (n := 0) S n h3) h⟩
    · exact h.elim
  · obtain ⟨v, rfl, h1⟩ := hd.un1
    obtain ⟨a, rfl, ha⟩ := rd_ref h1
    split at h
    · rename_i e0
      obtain ⟨bs, rfl, h⟩ := h
      obtain ⟨vs, h2, h3⟩ := S.sqL ha (.inl e0)
      have e := bls_of h3
      subst e
      exact cr_any hc pins s σ H _ us Q I r ⟨a, bs, rfl, hK ▸ h2, Wn.bl S h⟩
    · exact h.elim
  · obtain ⟨v, rfl, h1⟩ := hd.un1
    obtain ⟨a, rfl, ha⟩ := rd_ref h1
    split at h
    · rename_i e0
      obtain ⟨bs, rfl, h⟩ := h
      obtain ⟨vs, h2, h3⟩ := S.sqL ha (.inl e0)
      have e := bls_of h3
      subst e
      exact cr_all hc pins s σ H _ us Q I r ⟨a, bs, rfl, hK ▸ h2, Wn.bl S h⟩
    · exact h.elim
  · obtain ⟨v, rfl, h1⟩ := hd.un1
    cases rd_int h1
    exact call_bool1 pins s σ H _ us Q I r (.inl ⟨_, rfl, Wn.bl S h⟩)
  · obtain ⟨v, rfl, h1⟩ := hd.un1
    cases rd_bl h1
    exact call_bool1 pins s σ H _ us Q I r (.inr ⟨_, rfl, Wn.bl S h⟩)
  · exact h.elim
def meI : Me → String × String × Str
  | .append => ("list", "list.append", "append") | .pop => ("list", "list.pop", "pop") | .popAt => ("list", "list.pop", "pop") | .insert => ("list", "list.insert", "insert")
  | .extend => ("list", "list.extend", "extend") | .reverse => ("list", "list.reverse", "reverse") | .clear => ("list", "list.clear", "clear") | .index => ("list", "list.index", "index")
  | .get1 => ("dict", "dict.get", "get") | .get2 => ("dict", "dict.get", "get") | .setdefault => ("dict", "dict.setdefault", "setdefault") | .split => ("str", "str.split", "split") | .join => ("str", "str.join", "join")
  | .upper => ("str", "str.upper", "upper") | .sindex => ("str", "str.index", "index") | .starts => ("str", "str.startswith", "startswith") | .scount => ("str", "str.count", "count")
def rMe (g : G) (m' : Me) : V → List V → Hp → VK → Prop := fun x xs H Q => ∃ m st d ds, SR g m H st ∧ RD g m H d x ∧ RDs g m H ds xs ∧ meQ m' d ds st (Wn g m H Q)
theorem strs_of {m : Mp} {H : Hp} : ∀ {ys : List (List Nat)} {vs : List V}, RDs g m H (ys.map D.str) vs → vs = (ys.map fun y => (⟨y.toArray⟩ : Str)).map V.str
  | [], _, h => h
  | b :: bs, _, h => by
    obtain ⟨v, r, rfl, h2, h3⟩ := h
    cases rd_str h2
    rw [strs_of h3]
    rfl
theorem rds_strs {m : Mp} {H : Hp} : ∀ ys : List Str, RDs g m H (ys.map fun z => D.str z.cps.toList) (ys.map V.str)
  | [] => rfl
  | y :: ys => ⟨_, _, rfl, by show V.str y = V.str ⟨y.cps.toList.toArray⟩; rw [str_codes], rds_strs ys⟩
theorem len_map (ys : List (List Nat)) : ((ys.map fun y => (⟨y.toArray⟩ : Str)).map (·.length)) = ys.map List.length := by
  rw [List.map_map]
  exact List.map_congr_left fun y _ => str_len y
theorem mt_me (hu : X.A.units + 1 < cLine) (hK : X.K = g.K) (mm : Me) : MtR X (meI mm).2.1 (rMe g mm) := by
  intro pins s σ H x xs v us Q I rx rs h
  obtain ⟨m, st, d, ds, S, hx, hd, h⟩ := h
  unfold meQ at h
  split at h
  · obtain ⟨a, rfl, ha⟩ := rd_ref hx
    obtain ⟨w, rfl, h1⟩ := hd.un1
    split at h
    · rename_i e0
      obtain ⟨vs, h2, h3⟩ := S.lst ha e0
      refine mt_append pins s σ H _ _ v us Q I rx rs ⟨a, vs, w, rfl, rfl, h2, by rw [h3.length]; exact h.1, ?_⟩
      exact Wn.wrl S ha e0 h2 h.2 rfl (h3.app (.one h1))
    · exact h.elim
  · obtain ⟨a, rfl, ha⟩ := rd_ref hx
    cases (show xs = [] from hd)
    split at h
    · rename_i e0
      obtain ⟨y, e1, h⟩ := h
      obtain ⟨vs, h2, h3⟩ := S.lst ha e0
      obtain ⟨w, e2, rw2⟩ := h3.get e1
      refine mt_pop pins s σ H _ _ v us Q I rx rs ⟨a, vs, w, rfl, rfl, h2, by rw [h3.length]; exact e2, ?_⟩
      exact Wn.wrl S ha e0 h2 h rw2 h3.dropLast
    · exact h.elim
  · obtain ⟨a, rfl, ha⟩ := rd_ref hx
    cases (show xs = [] from hd)
    split at h
    · rename_i e0
      obtain ⟨vs, h2, h3⟩ := S.lst ha e0
      refine mt_reverse pins s σ H _ _ v us Q I rx rs ⟨a, vs, rfl, rfl, h2, ?_⟩
      exact Wn.wrl S ha e0 h2 h rfl h3.rev
    · exact h.elim
  · obtain ⟨a, rfl, ha⟩ := rd_ref hx
    cases (show xs = [] from hd)
    split at h
    · rename_i e0
      obtain ⟨vs, h2, h3⟩ := S.lst ha e0
      refine mt_clear pins s σ H _ _ v us Q I rx rs ⟨a, vs, rfl, rfl, h2, ?_⟩
      exact Wn.wrl S ha e0 h2 h rfl RDs.nil
    · exact h.elim
  · cases rd_str hx
    obtain ⟨w, rfl, h1⟩ := hd.un1
    cases rd_str h1
    obtain ⟨e1, e2, h⟩ := h
    refine mt_split pins s σ H _ _ v us Q I rx rs ⟨_, _, rfl, rfl, by rw [str_len]; exact beq_eq_false_iff_ne.mpr e1, by rw [str_len]; exact e2, fun p n => ?_⟩
    exact Wn.newl S n h (rds_strs _)
  · cases rd_str hx
    obtain ⟨w, rfl, h1⟩ := hd.un1
    obtain ⟨ys, e1, e2, h⟩ := h
    have q : ∃ p, w = .ref p ∧ (SqL X.K H p ((ys.map fun y => (⟨y.toArray⟩ : Str)).map V.str) ∨ SqT X.K H p ((ys.map fun y => (⟨y.toArray⟩ : Str)).map V.str)) := by
      unfold seqOf at e1
      split at e1
      · obtain ⟨a, vs, rfl, h2, h3⟩ := rd_tup h1
        cases e1
        have e := strs_of h3
        subst e
        exact ⟨a, rfl, .inr (hK ▸ h2)⟩
      · obtain ⟨a, rfl, ha⟩ := rd_ref h1
        split at e1
        · rename_i e0
          cases e1
          obtain ⟨vs, h2, h3⟩ := S.sqL ha (.inl e0)
          have e := strs_of h3
          subst e
          exact ⟨a, rfl, .inl (hK ▸ h2)⟩
        · rename_i e0
          cases e1
          obtain ⟨vs, h2, h3⟩ := S.sqL ha (.inr e0)
          have e := strs_of h3
          subst e
          exact ⟨a, rfl, .inl (hK ▸ h2)⟩
        · cases e1
      · cases e1
    obtain ⟨p, rfl, hp⟩ := q
    refine mt_join pins s σ H _ _ v us Q I rx rs ⟨_, p, _, rfl, rfl, hp, ?_, ?_⟩
    · rw [len_map, List.length_map, str_len]
      exact e2
    · have q := Wn.str S h
      rw [str_codes] at q
      exact q
  · obtain ⟨a, rfl, ha⟩ := rd_ref hx
    obtain ⟨w, rfl, h1⟩ := hd.un1
    cases rd_int h1
    split at h
    · rename_i e0
      obtain ⟨rfl, h⟩ := h
      obtain ⟨vs, h2, h3⟩ := S.lst ha e0
      obtain ⟨v0, r0, rfl, rv, h3⟩ := h3
      refine mt_popAt pins s σ H _ _ v us Q I rx rs ⟨a, _, 0, 0, v0, rfl, rfl, h2, by decide, by decide, (by simp [seqIndex?]), rfl, ?_⟩
      exact Wn.wrl S ha e0 h2 h rv h3
    · exact h.elim
  · obtain ⟨a, rfl, ha⟩ := rd_ref hx
    obtain ⟨w1, w2, rfl, h1, h2⟩ := hd.two
    split at h
    · rename_i e0
      obtain ⟨kd, h⟩ := h
      obtain ⟨u1, u2, rfl, r1, r2⟩ := rs.two
      cases (show v = Value.ref a from rx)
      obtain ⟨o, dg, eo, ed⟩ := d_look S ha e0 h1 kd
      refine d_get2 hu I dg r1 r2 fun w' s' I' rw' => ?_
      refine ⟨_, H, I', rw', ?_⟩
      cases q : getK _ _ with
      | none =>
        rw [q] at eo h
        have on : o = none := Option.isNone_iff_eq_none.mp (by cases o <;> simp_all)
        rw [on]
        exact Wn.here S h2 h
      | some dd =>
        rw [q] at h
        obtain ⟨w, rfl, rv⟩ := ed dd q
        exact Wn.here S rv h
    · exact h.elim
  · obtain ⟨a, rfl, ha⟩ := rd_ref hx
    obtain ⟨w1, rfl, h1⟩ := hd.un1
    split at h
    · rename_i e0
      obtain ⟨kd, h⟩ := h
      obtain ⟨u1, rfl, r1⟩ := rs.one
      cases (show v = Value.ref a from rx)
      obtain ⟨o, dg, eo, ed⟩ := d_look S ha e0 h1 kd
      refine d_get1 hu I dg r1 fun w' s' I' rw' => ?_
      refine ⟨_, H, I', rw', ?_⟩
      cases q : getK _ _ with
      | none =>
        rw [q] at eo h
        have on : o = none := Option.isNone_iff_eq_none.mp (by cases o <;> simp_all)
        rw [on]
        exact Wn.non S h
      | some dd =>
        rw [q] at h
        obtain ⟨w, rfl, rv⟩ := ed dd q
        exact Wn.here S rv h
    · exact h.elim
  · obtain ⟨a, rfl, ha⟩ := rd_ref hx
    obtain ⟨w1, w2, rfl, h1, h2⟩ := hd.two
    cases rd_int h1
    split at h
    · rename_i e0
      obtain ⟨vs, h3, h4⟩ := S.lst ha e0
      refine mt_insert pins s σ H _ _ v us Q I rx rs ⟨a, vs, _, w2, rfl, rfl, h3, by rw [h4.length]; exact h.1, h.2.1.1, h.2.1.2, ?_⟩
      exact Wn.wrl S ha e0 h3 h.2.2 rfl (((h4.take _).app (.one h2)).app (h4.drop _))
    · exact h.elim
  · cases rd_str hx
    cases (show xs = [] from hd)
    refine mt_upper pins s σ H _ _ v us Q I rx rs ⟨_, rfl, rfl, by rw [str_len]; exact h.1, ?_⟩
    have q := Wn.str S h.2
    rw [str_codes] at q
    exact q
  · cases rd_str hx
    obtain ⟨w, rfl, h1⟩ := hd.un1
    cases rd_str h1
    obtain ⟨i, r, e, h⟩ := h
    exact mt_sindex pins s σ H _ _ v us Q I rx rs ⟨_, _, i, r, rfl, rfl, by rw [str_len]; exact e, Wn.int S h⟩
  · cases rd_str hx
    obtain ⟨w, rfl, h1⟩ := hd.un1
    cases rd_str h1
    exact mt_startswith pins s σ H _ _ v us Q I rx rs ⟨_, _, rfl, rfl, Wn.bl S h⟩
  · cases rd_str hx
    obtain ⟨w, rfl, h1⟩ := hd.un1
    cases rd_str h1
    exact mt_count pins s σ H _ _ v us Q I rx rs ⟨_, _, rfl, rfl, Wn.int S h⟩
  · exact h.elim
def rIdx (g : G) (T : Tab) : R2 := fun x y H Q => ∃ m st dx dy, SR g m H st ∧ RD g m H dx x ∧ RD g m H dy y ∧ idxQ T st dx dy (Wn g m H Q)
theorem ix_kd {d : Addr} {es : Array DictEntry} {n : Nat} (D1 : KDict X.K X.w d es n) : IxR X (fun x y H Q => ∃ (z : Str) (u0 : Value) (v0 : V), x = .ref d ∧ y = .str z ∧ PySem.W.nsIn X.K d z = some (some u0) ∧ RelV v0 u0 ∧ Q v0 H) := by
  intro value slice pins s σ H x y v u Q I rx ry h hs
  have hx : x = .ref d := let ⟨_, _, _, a, _⟩ := h; a
  subst hx
  cases (show v = Value.ref d from rx)
  unfold subscriptTail
  refine wpAny_bind ?_
  rw [getitemInPython_of_ne (kd_type D1 I).not_modules]
  refine wpAny_bind (wpAny_specialOf (kd_type D1 I) PySem.F.slot_dict_getitem.lookup ?_)
  have z : wpAny (model X.prog X.w) X.A (subscripted slice false (.ref d) u) (fun r s' => wpAny (model X.prog X.w) X.A (letTemporaryGo value (.ref d) r >>= fun _ => pure r) (EP X pins σ Q) X.xe s') X.xe s := by
    rw [hs]
    refine wpAny_operating (wpAny_mono (op_item_kd D1 pins s σ H (.ref d) y (.ref d) u Q I rfl ry h) (fun r s' hr => ?_) fun _ _ q => q)
    exact wpAny_bind (wpAny_letTemporaryGo (wpAny_pure hr))
  first
    | exact wpAny_pure (wpAny_bind z)
    | exact wpAny_bind (wpAny_pure (wpAny_bind z))
    | exact wpAny_bind z
theorem ix_any {T : Tab} (F : Vf g T X.w) (hK : X.K = g.K) (hu : X.A.units + 1 < cLine) : IxR X (rIdx g T) := by
  intro value slice pins s σ H x y v u Q I rx ry h hs
  obtain ⟨m, st, dx, dy, S, hx, hy, h⟩ := h
  unfold idxQ at h
  split at h
  · cases rd_str hx
    cases rd_int hy
    obtain ⟨h0, h⟩ := h
    split at h
    · rename_i z i _ j e
      obtain ⟨c, e2, h⟩ := h
      refine ix_str value slice pins s σ H _ _ v u Q I rx ry ⟨_, _, c, rfl, rfl, by rw [str_len]; exact h0, ?_, Wn.str S h⟩ hs
      show atI z.toArray.toList i = some c
      rw [List.toList_toArray]
      exact at_ix e e2
    · exact h.elim
  · obtain ⟨a, vs, rfl, h1, h2⟩ := rd_tup hx
    cases rd_int hy
    split at h
    · rename_i j e
      obtain ⟨c, e2, h⟩ := h
      obtain ⟨w, e3, rw3⟩ := h2.get e2
      exact ix_tup value slice pins s σ H _ _ v u Q I rx ry ⟨a, vs, _, w, rfl, rfl, hK ▸ h1, at_ix (by rw [h2.length]; exact e) e3, Wn.here S rw3 h⟩ hs
    · exact h.elim
  · obtain ⟨d, e, h⟩ := h
    rename_i k
    have x1 : x = .ref (g.ka k) := hx
    subst x1
    have h0 : T.kon k ≠ [] := fun z => by
      rw [z] at e
      unfold getC at e
      split at e <;> cases e
    have KA := F.kon k h0
    obtain ⟨es, n, D1⟩ := KA.d
    obtain ⟨z, rfl⟩ : ∃ z, dy = .str z := by
      unfold getC at e
      split at e
      · exact ⟨_, rfl⟩
      · cases e
    cases rd_str hy
    obtain ⟨r, e1, e2⟩ := KA.at_ z
    rw [e] at e2
    obtain ⟨u0, v0, rfl, r1, r2⟩ := e2
    exact ix_kd (hK ▸ D1) value slice pins s σ H _ _ v u Q I rx ry ⟨_, u0, v0, rfl, rfl, by rw [hK]; exact e1, r1, Wn.here S (r2 m H) h⟩ hs
  · obtain ⟨a, rfl, ha⟩ := rd_ref hx
    split at h
    · rename_i e0
      obtain ⟨i, rfl, h⟩ := h
      cases rd_int hy
      obtain ⟨vs, h1, h2⟩ := S.sqL ha (.inl e0)
      split at h
      · rename_i j e
        obtain ⟨c, e2, h⟩ := h
        obtain ⟨w, e3, rw3⟩ := h2.get e2
        exact ix_list value slice pins s σ H _ _ v u Q I rx ry ⟨a, vs, _, w, rfl, rfl, hK ▸ h1, at_ix (by rw [h2.length]; exact e) e3, Wn.here S rw3 h⟩ hs
      · exact h.elim
    · rename_i e0
      obtain ⟨i, rfl, h⟩ := h
      cases rd_int hy
      obtain ⟨vs, h1, h2⟩ := S.sqL ha (.inr e0)
      split at h
      · rename_i j e
        obtain ⟨c, e2, h⟩ := h
        obtain ⟨w, e3, rw3⟩ := h2.get e2
        exact ix_list value slice pins s σ H _ _ v u Q I rx ry ⟨a, vs, _, w, rfl, rfl, hK ▸ h1, at_ix (by rw [h2.length]; exact e) e3, Wn.here S rw3 h⟩ hs
      · exact h.elim
    · rename_i e0
      obtain ⟨kd, c, e2, h⟩ := h
      obtain ⟨o, dg, _, eo⟩ := d_look S ha e0 hy kd
      obtain ⟨w, rfl, rw3⟩ := eo c e2
      exact ix_dg hu value slice pins s σ H _ _ v u Q I rx ry ⟨a, w, rfl, dg, Wn.here S rw3 h⟩ hs
    · exact h.elim
  · exact h.elim
def rSli (g : G) : V → Option Int → Option Int → Hp → VK → Prop := fun x lo hi H Q => ∃ m st dx, SR g m H st ∧ RD g m H dx x ∧ sliQ st dx lo hi (Wn g m H Q)
theorem RDs.cut {m : Mp} {H : Hp} {ds : List D} {vs : List V} (h : RDs g m H ds vs) (lo hi : Option Int) : RDs g m H (cutL ds lo hi) (cutV vs lo hi) := by
  show RDs g m H ((ds.drop (HT.sIx ds.length 0 lo)).take (HT.sIx ds.length ds.length hi - HT.sIx ds.length 0 lo)) ((vs.drop (HT.sIx vs.length 0 lo)).take (HT.sIx vs.length vs.length hi - HT.sIx vs.length 0 lo))
  rw [h.length]
  exact (h.drop _).take _
theorem sl_any (hK : X.K = g.K) : SlR X (rSli g) := by
  intro pins s σ H x v vl vu lo hi sl Q I rx hs pl pu h
  obtain ⟨m, st, dx, S, hx, h⟩ := h
  unfold sliQ at h
  split at h
  · cases rd_str hx
    rename_i z
    refine sl_str pins s σ H _ v vl vu lo hi sl Q I rx hs pl pu ⟨_, rfl, by rw [str_len]; exact h.1, ?_⟩
    have q := Wn.str S h.2
    unfold cutS
    rw [str_len, List.toList_toArray]
    exact q
  · obtain ⟨a, vs, rfl, h1, h2⟩ := rd_tup hx
    refine sl_tupA pins s σ H _ v vl vu lo hi sl Q I rx hs pl pu ⟨a, vs, rfl, hK ▸ h1, fun e => ?_, fun _ p n => Wn.tup S n (h2.cut lo hi) h⟩
    have q := h2.cut lo hi
    have e3 : cutV vs lo hi = vs := by
      unfold cutV
      rw [e.1, e.2, List.drop_zero, Nat.sub_zero, List.take_length]
    rw [e3] at q
    exact h m H _ (.refl _ _) S ⟨a, vs, rfl, h1, q⟩
  · obtain ⟨a, rfl, ha⟩ := rd_ref hx
    split at h
    · rename_i e0
      obtain ⟨vs, h1, h2⟩ := S.sqL ha (.inl e0)
      exact sl_list pins s σ H _ v vl vu lo hi sl Q I rx hs pl pu ⟨a, vs, rfl, hK ▸ h1, fun p n => Wn.new S n rfl (ro_lst (n := 0) S n (h2.cut lo hi)) h⟩
    · rename_i e0
      obtain ⟨vs, h1, h2⟩ := S.sqL ha (.inr e0)
      exact sl_list pins s σ H _ v vl vu lo hi sl Q I rx hs pl pu ⟨a, vs, rfl, hK ▸ h1, fun p n => Wn.new S n rfl (ro_lst (n := 0) S n (h2.cut lo hi)) h⟩
    · exact h.elim
  · exact h.elim
def rSet (g : G) : TSet := fun o i v H Q => ∃ m st do_ di dv, SR g m H st ∧ RD g m H do_ o ∧ RD g m H di i ∧ RD g m H dv v ∧ setQ st do_ di dv fun s => ∀ m' H', Ext m m' H H' → SR g m' H' s → Q H'
theorem set_any (hu : X.A.units + 1 < cLine) : PSet X (rSet g) := by
  intro pins s σ H o i v ov iv u Q I ro ri rv h
  obtain ⟨m, st, d1, d2, d3, S, h1, h2, h3, h⟩ := h
  unfold setQ at h
  split at h
  · obtain ⟨a, rfl, ha⟩ := rd_ref h1
    split at h
    · rename_i e0
      obtain ⟨k, j, rfl, e, h⟩ := h
      cases rd_int h2
      obtain ⟨vs, k1, k2⟩ := S.lst ha e0
      refine set_list pins s σ H _ _ v ov iv u Q I ro ri rv ⟨a, vs, k, j, rfl, rfl, k1, by rw [k2.length]; exact e, ?_⟩
      have x : Ext m m H (upd H a (.lst (vs.set j v))) := ext_mut (by rw [k1]; trivial)
      exact h _ _ x (S.write ha e0 rfl rfl ⟨_, upd_same, RDs.mono x _ _ (k2.set j h3)⟩)
    · rename_i kvs e0
      obtain ⟨hk, hl, h⟩ := h
      obtain ⟨ps, k1, k2⟩ := S.get ha e0
      obtain ⟨k, rfl⟩ := key_cases hk
      rw [key_flat h2] at ri
      have len : ps.length < sizeLine := by rw [← Paired.length k2]; exact hl
      refine set_dict hu pins s σ H _ _ v ov iv u Q I ro ri rv ⟨a, _, rfl, DPut.k k1 len, ?_⟩
      have x : Ext m m H (upd H a (.dK (L2.putK ps k v))) := ext_mut (by rw [k1]; trivial)
      exact h _ _ x (S.write ha e0 rfl rfl ⟨_, upd_same, (rk_put h3 k2).mono x⟩)
    · exact h.elim
  · exact h.elim
end
end Y
set_option linter.all false
set_option maxHeartbeats 4000000
set_option maxRecDepth 100000
namespace Y
open PySem PySem.Spec PyProof.Rows L2
structure Nm where
  fn : Nat → Option Str
  gl : Nat → Option Str
  cl : Nat → Option Str
  ex : Nat → Option Str
  fd : Nat → Option Str
  mk_ : Nat → Option Nat
  df : Nat → List D
  mt : Nat → Nat → Option Str
  xf : Nat → Bool
  ei : Bool := false
structure Sta where
  N : List Str
  sc : Scope
  en : Option Nat := none
def visB (S : Sta) (x : Str) : Bool := match S.sc.names.lookup x with
  | some .local => true | some .cell => true | some .free => true
  | _ => false
def locB (S : Sta) (x : Str) : Bool := match S.sc.names.lookup x with
  | some .local => true | some .cell => true
  | _ => false
def gloB (S : Sta) (x : Str) : Bool := match S.sc.names.lookup x with
  | some .globalImplicit => true
  | _ => false
def okN (x : Str) : Bool := !(x == ("__debug__" : Str)) && !(x == ("__classdict__" : Str))
def conB : D → Const → Bool
  | .non, .none => true
  | .bl b, .bool c => b == c
  | .int i, .int j => decide (i = j)
  | .str x, .str y => decide (y = ⟨x.toArray⟩)
  | _, _ => false
def opB : Op → Operator → Bool
  | .add, .Add => true | .sub, .Sub => true | .mul, .Mult => true | .fdiv, .FloorDiv => true | .mod, .Mod => true | .pow, .Pow => true
  | _, _ => false
theorem opB_ok {o : Op} {p : Operator} (h : opB o p = true) : p = opR o := by
  cases o <;> cases p <;> first | rfl | cases h
def cmB : Cm → CmpOp → Bool
  | .eq, .Eq => true | .ne, .NotEq => true | .lt, .Lt => true | .le, .LtE => true | .gt, .Gt => true | .ge, .GtE => true | .inn, .In => true | .nin, .NotIn => true | .isb, .Is => true | .nsb, .IsNot => true | .deq, .Eq => true
  | _, _ => false
theorem cmB_ok {o : Cm} {p : CmpOp} (h : cmB o p = true) : p = cmR o := by
  cases o <;> cases p <;> first | rfl | cases h
def noSet : Expr → Bool
  | .Set .. => false
  | _ => true
theorem noSet_mark {op : CmpOp} {e : Expr} (h : noSet e = true) : behindInMarks op e = false := by
  cases e <;> first | rfl | cases h
theorem noSet_fold {e : Expr} {env : PySem.Env} (h : noSet e = true) (x : Value) : foldedSetIterable e env x = pure x := by
  cases e <;> first | rfl | cases h
def noStar : Expr → Bool
  | .Starred .. => false
  | _ => true
theorem star_cons {e : Expr} {es : List Expr} {env : PySem.Env} (h : noStar e = true) : starEach (e :: es) env = (false, eval e env) :: starEach es env := by
  cases e <;> first | rfl | cases h
def noStars (es : List Expr) : Bool := es.all noStar
theorem star_any {pos : Pos} {env : PySem.Env} : ∀ {es : List Expr}, noStars es = true → (backTo pos (starEach es env)).any (·.1) = false
  | [], _ => rfl
  | e :: es, h => by
    have h2 : (noStar e && noStars es) = true := h
    rw [Bool.and_eq_true] at h2
    rw [star_cons h2.1]
    show (false || (backTo pos (starEach es env)).any (·.1)) = false
    rw [star_any h2.2]
    rfl
theorem star_len {pos : Pos} {env : PySem.Env} : ∀ {es : List Expr}, noStars es = true → (backTo pos (starEach es env)).all (fun x => !x.1) = true
  | [], _ => rfl
  | e :: es, h => by
    have h2 : (noStar e && noStars es) = true := h
    rw [Bool.and_eq_true] at h2
    rw [star_cons h2.1]
    show (true && (backTo pos (starEach es env)).all (fun x => !x.1)) = true
    rw [star_len h2.2]
    rfl
def dotB : Expr → Bool
  | .Call (.Name _ _) [] [] _ => false
  | _ => true
theorem dot_base {o : Expr} {f : Str} {env : PySem.Env} {wh : Sem Value} (h : dotB o = true) : attributeBase o f env wh = wh := by
  unfold attributeBase
  split
  · cases h
  · rfl
def tvB : Expr → Bool
  | .UnaryOp .Not _ _ => false
  | .BoolOp .. => false
  | .IfExp .. => false
  | .Compare .. => false
  | _ => true
theorem tv_true {e : Expr} {env : PySem.Env} (h : tvB e = true) (wh : Sem Value) : isTrue e env wh = (do let v ← wh; standAt e.pos; holding [v] (truthy v)) := by
  cases e <;> first
    | rfl
    | (cases h; done)
    | (rename_i op x p
       cases op <;> first | rfl | cases h)
def ixB : Expr → Bool
  | .Slice .. => false
  | _ => true
theorem ix_plain {e : Expr} (h : ixB e = true) : PlainIx e := by
  intro o i
  cases e <;> first | rfl | cases h
def prN : Pr → Str
  | .len => "len" | .int => "int" | .str => "str" | .abs => "abs" | .max2 => "max" | .min2 => "min" | .tuple => "tuple" | .list => "list" | .any => "any" | .all => "all" | .sum => "sum" | .max => "max" | .min => "min" | .bool => "bool"
def tyN : Ty → Option Str
  | .int => some "int" | .str => some "str" | .bool => some "bool" | .tuple => some "tuple" | .list => some "list" | .dict => some "dict"
  | .own _ => none
def bltNames : List Str := ["len", "int", "str", "abs", "max", "min", "tuple", "list", "any", "all", "sum", "bool", "isinstance", "range", "enumerate", "zip", "dict", "sorted", "reversed", "ValueError"]
def tailB (op : PySem.BoolOp) (l : List Expr) (pos : Pos) : Expr := match l with
  | [x] => x
  | l => .BoolOp op l pos
def ownP (S : Sta) (own : List Nat) : List (Str × Nat) := own.map fun i => (S.N.getD i "", i)
def blkS (S : Sta) (sc : Scope) : Sta := ⟨S.N, relS sc S.sc, none⟩
def tgVs : Tg → List Nat
  | .nm i => [i]
  | .tp is => is
def stB (S : Sta) (raw : Option Scope) (x : Str) : Bool := locB S x && (match raw with
  | none => true
  | some sc => (match S.sc.names.lookup x with
    | some .local => true
    | _ => (match sc.names.lookup x with
      | some .cell => true
      | _ => false)))
def ckTg0 (S : Sta) (raw : Option Scope) : Tg → Expr → Bool
  | .nm i, .Name x _ => decide (S.N[i]? = some x) && stB S raw x
  | .tp is, .Tuple es _ _ => decide (es.length = is.length) && (is.zip es).all fun p => match p.2 with
    | .Name x _ => decide (S.N[p.1]? = some x) && stB S raw x
    | _ => false
  | _, _ => false
def enB (S : Sta) (tg : Tg) : Bool := (tgVs tg).all fun i => decide (S.en ≠ some i)
def ckTg (S : Sta) (raw : Option Scope) (tg : Tg) (e : Expr) : Bool := enB S tg && ckTg0 S raw tg e
def ckTy (n : Nm) (S : Sta) (t : Ty) : Expr → Bool
  | .Name x _ => gloB S x && okN x && (match t with
    | .own c => decide (n.cl c = some x)
    | t => decide (tyN t = some x))
  | _ => false
def ckXt (n : Nm) (S : Sta) (o : Option Nat) : Expr → Bool
  | .Name x _ => gloB S x && okN x && (match o with
    | some c => decide (n.ex c = some x)
    | none => decide (x = "ValueError"))
  | _ => false
mutual
def ckE (n : Nm) : E → Sta → Expr → Bool
  | .var i, S, ex => (match ex with
    | .Name x _ => decide (S.N[i]? = some x) && visB S x && okN x
    | _ => false)
  | .con d, S, ex => (match ex with
    | .Constant c _ _ => conB d c
    | _ => false)
  | .glo k, S, ex => (match ex with
    | .Name x _ => decide (n.gl k = some x) && gloB S x && okN x
    | _ => false)
  | .bin o a b, S, ex => (match ex with
    | .BinOp ea op eb _ => opB o op && ckE n a S ea && ckE n b S eb
    | _ => false)
  | .neg a, S, ex => (match ex with
    | .UnaryOp .USub ea _ => ckE n a S ea
    | _ => false)
  | .cmp o a b, S, ex => (match ex with
    | .Compare ea [op] [eb] _ => cmB o op && noSet eb && ckE n a S ea && ckE n b S eb
    | _ => false)
  | .chain o o' a b c, S, ex => (match ex with
    | .Compare ea [op, op'] [eb, ec] _ => cmB o op && cmB o' op' && noSet ec && ckE n a S ea && ckE n b S eb && ckE n c S ec
    | _ => false)
  | .isN a, S, ex => (match ex with
    | .Compare ea [.Is] [.Constant .none _ _] _ => ckE n a S ea
    | _ => false)
  | .notN a, S, ex => (match ex with
    | .Compare ea [.IsNot] [.Constant .none _ _] _ => ckE n a S ea
    | _ => false)
  | .and a b, S, ex => (match ex with
    | .BoolOp .And (x :: y :: r) pos => ckE n a S x && ckE n b S (tailB .And (y :: r) pos)
    | _ => false)
  | .or a b, S, ex => (match ex with
    | .BoolOp .Or (x :: y :: r) pos => ckE n a S x && ckE n b S (tailB .Or (y :: r) pos)
    | _ => false)
  | .not a, S, ex => (match ex with
    | .UnaryOp .Not ea _ => ckE n a S ea
    | _ => false)
  | .ife c a b, S, ex => (match ex with
    | .IfExp ec ea eb _ => ckT n c S ec && ckE n a S ea && ckE n b S eb
    | _ => false)
  | .call f as df, S, ex => (match ex with
    | .Call (.Name x _) args [] _ => decide (n.fn f = some x) && (df.isEmpty || decide (df = n.df f)) && gloB S x && okN x && noStars args && ckA n as S args
    | _ => false)
  | .make c f as, S, ex => (match ex with
    | .Call (.Name x _) args [] _ => decide (n.cl c = some x) && decide (n.mk_ c = some f) && gloB S x && okN x && noStars args && ckA n as S args
    | _ => false)
  | .meth alts o as, S, ex => (match ex with
    | .Call (.Attribute eo m apos) args [] pos => (alts.all fun p => decide (n.mt p.1 p.2 = some m)) && dotB eo && (apos.endLine == pos.line) && decide (args.length < 30) && noStars args && ckE n o S eo && ckA n as S args
    | _ => false)
  | .fld f o, S, ex => (match ex with
    | .Attribute eo x _ => decide (n.fd f = some x) && dotB eo && ckE n o S eo
    | _ => false)
  | .pr p as, S, ex => (match ex with
    | .Call (.Name x _) (a0 :: args) [] _ => decide (x = prN p) && gloB S x && okN x && noStars (a0 :: args) && ckA n as S (a0 :: args)
    | _ => false)
  | .me m o as, S, ex => (match ex with
    | .Call (.Attribute eo x apos) args [] pos => decide (x = (meI m).2.2) && dotB eo && (apos.endLine == pos.line) && decide (args.length < 30) && noStars args && ckE n o S eo && ckA n as S args
    | _ => false)
  | .isi a ts, S, ex => (match ex with
    | .Call (.Name x _) [ea, ec] [] _ => decide (x = "isinstance") && gloB S x && okN x && noStar ea && ckE n a S ea && (match ts with
      | [t] => ckTy n S t ec
      | ts => (match ec with
        | .Tuple cs _ _ => noStars cs && (decide (cs.length = ts.length) && decide (ts.length ≤ 1000)) && (ts.zip cs).all fun p => ckTy n S p.1 p.2
        | _ => false))
    | _ => false)
  | .idx a b, S, ex => (match ex with
    | .Subscript ea eb _ => ixB eb && ckE n a S ea && ckE n b S eb
    | _ => false)
  | .sli a lo hi, S, ex => (match ex with
    | .Subscript ea (.Slice el eh none _) _ => ckE n a S ea && (match el with
      | some el => ckE n lo S el
      | none => (match lo with
        | .abs0 => true
        | _ => false)) && (match eh with
      | some eh => ckE n hi S eh
      | none => (match hi with
        | .abs0 => true
        | _ => false))
    | _ => false)
  | .tup as, S, ex => (match ex with
    | .Tuple es _ _ => noStars es && decide (es.length ≤ 1000) && ckA n as S es
    | _ => false)
  | .lst as, S, ex => (match ex with
    | .List es _ => noStars es && decide (es.length ≤ 1000) && ckA n as S es
    | _ => false)
  | .comp elt tg it cs own, S, ex => (match ex with
    | .ListComp ee [⟨tg', iter, ifs, 0⟩] sc _ => ckI n it S tg' iter && noSet iter && blkC S.N S.sc sc (ownP S own) && (own.all fun i => decide (i < S.N.length)) && ckTg (blkS S sc) (some sc) tg tg' && ((tgVs tg).all own.contains) && ckE n elt (blkS S sc) ee && ckTs n cs (blkS S sc) ifs
    | _ => false)
  | .dic as, S, ex => (match ex with
    | .Dict ks vs _ => decide (ks.length ≤ 15) && ckD n as S ks vs
    | _ => false)
  | .dcomp kx vx tg it cs own, S, ex => (match ex with
    | .DictComp ek ev [⟨tg', iter, ifs, 0⟩] sc _ => ckI n it S tg' iter && noSet iter && blkC S.N S.sc sc (ownP S own) && (own.all fun i => decide (i < S.N.length)) && ckTg (blkS S sc) (some sc) tg tg' && ((tgVs tg).all own.contains) && ckE n kx (blkS S sc) ek && ckE n vx (blkS S sc) ev && ckTs n cs (blkS S sc) ifs
    | _ => false)
  | .fstr as, S, ex => (match ex with
    | .JoinedStr (x :: y :: r) _ => ckF n as S (x :: y :: r)
    | _ => false)
  | .bad, _, _ => true
  | .eqo c f a b, S, ex => (match ex with
    | .Compare ea [.Eq] [eb] _ => decide (n.mt c f = some "__eq__") && noSet eb && ckE n a S ea && ckE n b S eb
    | _ => false)
  | .rvl a, S, ex => (match ex with
    | .Subscript ea (.Slice none none (some (.UnaryOp .USub (.Constant (.int 1) _ _) _)) _) _ => ckE n a S ea
    | _ => false)
  | .efld f, S, ex => (match ex with
    | .Attribute (.Name x _) y _ => (match S.en with
      | some i => decide (S.N[i]? = some x) && decide (n.fd f = some y) && n.xf f && visB S x && okN x
      | none => false)
    | _ => false)
  | .eisi cs, S, ex => (match ex with
    | .Call (.Name x _) [.Name y _, ec] [] _ => decide (x = "isinstance") && gloB S x && okN x && n.ei && (match S.en with
      | some i => decide (S.N[i]? = some y) && visB S y && okN y
      | none => false) && (match cs with
      | [c] => ckXt n S c ec
      | cs => (match ec with
        | .Tuple es _ _ => noStars es && (decide (es.length = cs.length) && decide (cs.length ≤ 1000)) && (cs.zip es).all fun p => ckXt n S p.1 p.2
        | _ => false))
    | _ => false)
  | _, _, _ => false
def ckT (n : Nm) : E → Sta → Expr → Bool
  | .cmp o a b, S, ex => (match ex with
    | .Compare ea [op] [eb] _ => cmB o op && noSet eb && ckE n a S ea && ckE n b S eb
    | _ => false)
  | .chain o o' a b c, S, ex => (match ex with
    | .Compare ea [op, op'] [eb, ec] _ => cmB o op && cmB o' op' && noSet ec && ckE n a S ea && ckE n b S eb && ckE n c S ec
    | _ => false)
  | .isN a, S, ex => (match ex with
    | .Compare ea [.Is] [.Constant .none _ _] _ => ckE n a S ea
    | _ => false)
  | .notN a, S, ex => (match ex with
    | .Compare ea [.IsNot] [.Constant .none _ _] _ => ckE n a S ea
    | _ => false)
  | .and a b, S, ex => (match ex with
    | .BoolOp .And (x :: y :: r) pos => ckT n a S x && ckT n b S (tailB .And (y :: r) pos)
    | _ => false)
  | .or a b, S, ex => (match ex with
    | .BoolOp .Or (x :: y :: r) pos => ckT n a S x && ckT n b S (tailB .Or (y :: r) pos)
    | _ => false)
  | .not a, S, ex => (match ex with
    | .UnaryOp .Not ea _ => ckT n a S ea
    | _ => false)
  | .tv a, S, ex => tvB ex && ckE n a S ex
  | .bad, _, _ => true
  | _, _, _ => false
def ckA (n : Nm) : A → Sta → List Expr → Bool
  | .nil, _, es => (match es with
    | [] => true
    | _ => false)
  | .cons e as, S, es => (match es with
    | x :: r => ckE n e S x && ckA n as S r
    | _ => false)
def ckD (n : Nm) : A → Sta → List (Option Expr) → List Expr → Bool
  | .nil, _, ks, vs => (match ks, vs with
    | [], [] => true
    | _, _ => false)
  | .cons _ .nil, _, _, _ => false
  | .cons k (.cons v as), S, ks, vs => (match ks, vs with
    | some ek :: ks, ev :: vs => ckE n k S ek && ckE n v S ev && ckD n as S ks vs
    | _, _ => false)
def ckF (n : Nm) : A → Sta → List Expr → Bool
  | .nil, _, es => (match es with
    | [] => true
    | _ => false)
  | .cons e as, S, es => (match es with
    | .FormattedValue x (-1) none _ :: r => ckE n e S x && ckF n as S r
    | .Constant (.str x) _ _ :: r => (match e with
      | .con (.str y) => decide (x = ⟨y.toArray⟩) && decide (y.length ≤ 1000)
      | _ => false) && ckF n as S r
    | _ => false)
def ckTs (n : Nm) : A → Sta → List Expr → Bool
  | .nil, _, es => (match es with
    | [] => true
    | _ => false)
  | .cons e as, S, es => (match es with
    | [x] => ckT n e S x && (match as with
      | .nil => true
      | _ => false)
    | _ => false)
def ckI (n : Nm) : E → Sta → Expr → Expr → Bool
  | .rng1 a, S, _, ex => (match ex with
    | .Call (.Name x _) [ea] [] _ => decide (x = "range") && gloB S x && okN x && noStar ea && ckE n a S ea
    | _ => false)
  | .rng2 a b, S, _, ex => (match ex with
    | .Call (.Name x _) [ea, eb] [] _ => decide (x = "range") && gloB S x && okN x && noStar ea && noStar eb && ckE n a S ea && ckE n b S eb
    | _ => false)
  | .rev a, S, tg, ex => (match ex with
    | .Call (.Name x _) [ea] [] _ => decide (x = "reversed") && gloB S x && okN x && noStar ea && ckE n a S ea
    | _ => false)
  | .enm a, S, tg, ex => (match tg, ex with
    | .Tuple _ _ _, .Call (.Name x _) [ea] [] _ => decide (x = "enumerate") && gloB S x && okN x && noStar ea && ckE n a S ea
    | _, _ => false)
  | .zip a b, S, tg, ex => (match tg, ex with
    | .Tuple _ _ _, .Call (.Name x _) [ea, eb] [] _ => decide (x = "zip") && gloB S x && okN x && noStar ea && noStar eb && ckE n a S ea && ckE n b S eb
    | _, _ => false)
  | .sq a, S, _, ex => ckE n a S ex
  | .bad, _, _, _ => true
  | _, _, _, _ => false
end
end Y
set_option linter.all false
set_option maxHeartbeats 4000000
set_option maxRecDepth 100000
namespace Y
open PySem PySem.Spec PyProof.Rows L2
abbrev Wx (g : G) (m : Mp) (H : Hp) (E : XK) : QX := fun x s => ∀ m' H' cls dx, Ext m m' H H' → SR g m' H' s → RX g m' H' x cls dx → E cls dx H'
def spF (g : G) (C : Calls) (f : Nat) : Sp := fun vs H Q E => ∃ m st ds, SR g m H st ∧ RDs g m H ds vs ∧ C f ds st (Wn g m H Q) (Wx g m H E)
structure TopAt (g : G) (T : Tab) (n : Nm) (mg : Str → Option Value) : Prop where
  nm : g.nm = n.fd
  okc : ∀ c, g.okc c = (n.cl c).isSome
  oke : ∀ c, g.oke c = (n.ex c).isSome
  exg : ∀ c x, n.ex c = some x → mg x = some (.ref (g.ca c))
  exm : ∀ c c' x x', n.ex c = some x → n.ex c' = some x' → PySem.W.exmOne g.K (.ref (g.ca c)) (.ref (g.ca c')) = some (T.sub c c')
  ex0 : ∀ c x, n.ex c = some x → T.exf c = some none → (∃ bm, ExcBaseFacts "ValueError" "ValueError.__new__" "ValueError.__init__" bm ∧ PySem.W.excIn g.K (g.ca c) bm "ValueError.__new__" = true) ∧ PySem.W.keepIn g.K (.ref (g.ca c)) = true ∧
    PySem.W.subIn g.K (.ref (g.ca c)) (.type "BaseException") = some true ∧ PySem.W.typeIn g.K (.ref (g.ca c)) = some (.type "type")
  glo : ∀ i d x, T.glo i = some d → n.gl i = some x → ∃ u v, mg x = some u ∧ RelV v u ∧ ∀ m H, RD g m H d v
  blt : ∀ x ∈ bltNames, mg x = none
  fn : ∀ f x, n.fn f = some x → mg x = some (.ref (g.fa f)) ∧ PySem.W.keepIn g.K (.ref (g.fa f)) = true
  cl : ∀ c x, n.cl c = some x → mg x = some (.ref (g.ca c)) ∧ ClsAt g.K (g.ca c)
  noat : ∀ c x f y, n.cl c = some x → n.fd f = some y → NoAttr g.K (g.ca c) y
  nofd : ∀ c f x k, n.mt c f = some x → n.fd k ≠ some x
  mk_ : ∀ c f, n.mk_ c = some f → Mk g.K (g.ca c) (g.fa f)
  mt : ∀ c f x, n.mt c f = some x → Meth g.K (g.ca c) x (g.fa f)
  kit : ∀ c x t, n.cl c = some x → (∀ d, t = .own d → (n.cl d).isSome = true) → PySem.W.kitOne g.K (.ref (g.ca c)) (tyV1 g t) = some (isTy T (some (.own c)) t)
  xf : ∀ c x f y, n.ex c = some x → n.xf f = true → n.fd f = some y → XfC g.K (g.ca c) ∧ PySem.W.findIn g.K (.ref (g.ca c)) y = some none
  xk : n.ei = true → ∀ c x, n.ex c = some x → ExcC g.K (g.ca c) ∧ PySem.W.kitOne g.K (.ref (g.ca c)) (.type "ValueError") = some true ∧ ∀ d y, n.ex d = some y → PySem.W.kitOne g.K (.ref (g.ca c)) (.ref (g.ca d)) = some (T.sub c d)
  kit2 : ∀ c x (t : String), n.cl c = some x → t ∈ ["NoneType", "bool", "int", "str", "tuple", "list", "dict"] → PySem.W.kitOne g.K (.type t) (.ref (g.ca c)) = some false
def spX (K : PySem.W.Frag) (C : Addr) (y : Str) : Sp := fun vs H Q _ => ∃ (a : Addr) (v : V), vs = [.ref a, v] ∧ H a = some (exo a C none) ∧ ∀ dx, H dx = none → dx ≠ a → Q .non (upd (upd H dx (exd dx [(y, v)])) a (exo a C (some dx)))
structure ExiAt (g : G) (T : Tab) (n : Nm) (P : Program) (w : World) (mg : Str → Option Value) (base : Heap) : Prop where
  ok : ∀ c x f y, n.ex c = some x → T.exf c = some (some f) → n.fd f = some y → OexC g.K (g.ca c) ∧ ∃ fI fd ps, PySem.W.findIn g.K (.ref (g.ca c)) "__init__" = some (some (.ref fI)) ∧ PySem.W.typeIn g.K (.ref fI) = some (.type "function") ∧
    FnOk P w g.K mg base (L2.CX P w) 1 fI fd ps (spX g.K (g.ca c) y) ∧ Binds g.K fd ps []
  fd : ∀ c x f, n.ex c = some x → T.exf c = some (some f) → (n.fd f).isSome = true
structure CalAt (g : G) (n : Nm) (P : Program) (w : World) (mg : Str → Option Value) (base : Heap) (L : Nat) (C : Calls) (f : Nat) : Prop where
  ok : ∃ fd ps, FnOk P w g.K mg base (L2.CX P w) L (g.fa f) fd ps (spF g C f) ∧ Binds g.K fd ps [] ∧ (n.df f ≠ [] → ∃ ds dvs, Vals dvs ds ∧ Binds g.K fd ps ds ∧ ∀ m H, RDs g m H (n.df f) dvs)
structure CxOk (g : G) (T : Tab) (n : Nm) (C : Calls) (L : Nat) (hx : Option Exc) (W : WX) (S : Sta) (X : Cx) : Prop where
  K : X.K = g.K
  N : X.N = S.N
  nd : X.N.Nodup
  sc : X.env.scope = S.sc
  F : Vf g T X.w
  MC : MonoC C
  tk : Takes X W
  hu : X.A.units + 64 < cLine
  calm : hx = none → X.calm = true
  room : hx = none → Room (L + 1) X.A
  top : TopAt g T n X.mg
  cal : hx = none → ∀ f ds st Q E, C f ds st Q E → CalAt g n X.prog X.w X.mg X.base L C f
  hL : 1 ≤ L
  exi : hx = none → ExiAt g T n X.prog X.w X.mg X.base
  cxn : hx = none → g.cx = none
  cxe : S.en = none → g.cx = none
  cxs : ∀ i, S.en = some i → ∃ (c : Cau) (X0 : Cx) (oe : Obj) (pn : List (Addr × Obj)), g.cx = some c ∧ c.slot = i ∧ hx = some c.exc ∧ g.oke c.exc.cls = true ∧ c.cls = .ref (g.ca c.exc.cls) ∧ X = X0.suite c.ob ((c.ob, oe) :: pn) ∧ Zc c.cls c.dx oe ∧ ∃ vs, oe.data = .fields vs
section
variable {g : G} {T : Tab} {n : Nm} {C : Calls} {L : Nat} {hx : Option Exc} {W : WX} {S : Sta} {X : Cx}
theorem CxOk.free (O : CxOk g T n C L hx W S X) {i : Nat} (h : S.en ≠ some i) : FreeC g i := fun c e z => by
  cases q : S.en with
  | none => rw [O.cxe q] at e; cases e
  | some k =>
    obtain ⟨c', _, _, _, e1, e2, _⟩ := O.cxs k q
    rw [e1] at e
    cases e
    exact h (by rw [q, ← e2, z])
theorem CxOk.vis (O : CxOk g T n C L hx W S X) {x : Str} (h : visB S x = true) : Vis X.env.scope x := by
  unfold visB at h
  rw [← O.sc] at h
  split at h
  · exact .inl (by assumption)
  · exact .inr (.inl (by assumption))
  · exact .inr (.inr (by assumption))
  · cases h
theorem CxOk.loc (O : CxOk g T n C L hx W S X) {x : Str} (h : locB S x = true) : Loc X.env.scope x := by
  unfold locB at h
  rw [← O.sc] at h
  split at h
  · exact .inl (by assumption)
  · exact .inr (by assumption)
  · cases h
theorem CxOk.gl (O : CxOk g T n C L hx W S X) {x : Str} (h : gloB S x = true) : Gl X x := by
  unfold gloB at h
  rw [← O.sc] at h
  show X.env.scope.names.lookup x = some .globalImplicit
  split at h
  · assumption
  · cases h
theorem okN_1 {x : Str} (h : okN x = true) : (x == ("__debug__" : Str)) = false := by
  unfold okN at h
  rw [Bool.and_eq_true, Bool.not_eq_true'] at h
  exact h.1
theorem okN_2 {x : Str} (h : okN x = true) : (x == ("__classdict__" : Str)) = false := by
  unfold okN at h
  rw [Bool.and_eq_true, Bool.not_eq_true', Bool.not_eq_true'] at h
  exact h.2
theorem run_at {pins : List (Addr × Obj)} {σ : L2.St} {H : Hp} {s : Shared} {Q : VK} {us : List Value} {vs dvs : List V} {ds : List Value} {k : Nat} {f : Addr} {fd : FuncData} {ps : List Str} {sp : Sp} (F : FnOk X.prog X.w X.K X.mg X.base (L2.CX X.prog X.w) k f fd ps sp) (hr : Room k X.A)
    (hb : Binds X.K fd ps ds) (hd : Vals dvs ds) (tk : Takes X W) (I : Inv X pins σ H s) (r : Vals vs us) (h : sp (vs ++ dvs) H Q (WE W σ)) : wpAny (model X.prog X.w) X.A (call (.ref f) us) (EP X pins σ Q) X.xe s := by
  have r2 : Vals (vs ++ dvs) (us ++ ds) := r.append hd
  have l : (us ++ ds).length = ps.length := r2.length.symm.trans (F.len _ _ _ _ h)
  have b := hb s us I.kIn l
  refine wpAny_call (codeAny_mono (F.run _ _ s H _ _ _ Q (WE W σ) hr I.env0 b r2 h) fun z s' q => ?_)
  cases z with
  | error e => exact passAt tk σ pins H s e s' I q
  | ok fl =>
    cases fl with
    | ret u => exact I.after q
    | _ => exact q.elim
theorem make_at {pins : List (Addr × Obj)} {σ : L2.St} {H : Hp} {s : Shared} {Q : VK} {us : List Value} {vs : List V} {k : Nat} {f D : Addr} {fd : FuncData} {ps : List Str} {sp : Sp} (M : Mk X.K D f) (F : FnOk X.prog X.w X.K X.mg X.base (L2.CX X.prog X.w) k f fd ps sp) (hr : Room (k + 1) X.A)
    (hb : Binds X.K fd ps []) (tk : Takes X W) (I : Inv X pins σ H s) (r : Vals vs us)
    (h : ∀ x dx, H x = none → H dx = none → dx ≠ x → sp (.ref x :: vs) (upd (upd H dx (.own x)) x (.ins D dx [])) (fun v H2 => v = .non ∧ Q (.ref x) H2) (WE W σ)) :
    wpAny (model X.prog X.w) X.A (call (.ref D) us) (EP X pins σ Q) X.xe s := by
  have q := h (s.heap.objs.size + 1) s.heap.objs.size (I.hok.fresh (Nat.le_succ _)) (I.hok.fresh (Nat.le_refl _)) (Nat.ne_of_lt (Nat.lt_succ_self _))
  have J := Inv.made (C := D) I
  have r2 : Vals (V.ref (s.heap.objs.size + 1) :: vs) (Value.ref (s.heap.objs.size + 1) :: us) := .cons rfl r
  have l : ((Value.ref (s.heap.objs.size + 1) :: us) ++ []).length = ps.length := by
    rw [List.append_nil]
    exact r2.length.symm.trans (F.len _ _ _ _ q)
  have b := hb _ (Value.ref (s.heap.objs.size + 1) :: us) J.kIn l
  rw [List.append_nil] at b
  refine wpAny_call (make_map (f := f) I.kIn M.makes M.init (beq_iff_eq.mp M.fn) (codeAny_mono (F.run _ X.stack _ _ _ _ _ _ (WE W σ) (hr.make D us []) (J.env0.make D us []) b r2 q) fun z s' q' => ?_))
  cases z with
  | error e => exact passAt tk σ pins _ _ e s' J q'
  | ok fl =>
    cases fl with
    | ret u =>
      obtain ⟨v, H', I3, rv, ev, q3⟩ := J.after q'
      subst ev
      exact ⟨rv, V.ref (s.heap.objs.size + 1), H', I3, rfl, q3⟩
    | _ => exact q'.elim
theorem rE_of {e : E} {σ : L2.St} {H : Hp} {Q : VK} {m : Mp} {env : Env} {st : Store} (SR_ : SR g m H st) (ER_ : ER g m H σ env) (h : wpE T C hx e env st (Wn g m H Q) (Wx g m H (WE W σ))) : rE g T C hx W e σ H Q := ⟨m, env, st, SR_, ER_, h⟩
theorem Wn.ext {m m' : Mp} {H H' : Hp} {Q : VK} (e : Ext m m' H H') {d : D} {s : Store} (h : Wn g m H Q d s) : Wn g m' H' Q d s := fun m2 H2 v e2 => h m2 H2 v (e.trans e2)
theorem Wx.ext {m m' : Mp} {H H' : Hp} {E0 : XK} (e : Ext m m' H H') {x : Exc} {s : Store} (h : Wx g m H E0 x s) : Wx g m' H' E0 x s := fun m2 H2 c d e2 => h m2 H2 c d (e.trans e2)
section
variable (O : CxOk g T n C L hx W S X)
include O
theorem go_E {e : E} {σ : L2.St} {H : Hp} {m : Mp} {env : Env} {st : Store} {Q : VK} {R : QE} (SR_ : SR g m H st) (ER_ : ER g m H σ env) (h : wpE T C hx e env st R (Wx g m H (WE W σ)))
    (k : ∀ d s m' H' v, Ext m m' H H' → SR g m' H' s → ER g m' H' σ env → RD g m' H' d v → R d s → Q v H') : rE g T C hx W e σ H Q :=
  ⟨m, env, st, SR_, ER_, wpE_mono O.MC e env st _ _ _ _ (fun d s hr m' H' v e1 s1 r1 => k d s m' H' v e1 s1 (ER_.mono e1) r1 hr) (fun _ _ z => z) h⟩
theorem go_T {e : E} {σ : L2.St} {H : Hp} {m : Mp} {env : Env} {st : Store} {Q : Bool → Hp → Prop} {R : Bool → Store → Prop} (SR_ : SR g m H st) (ER_ : ER g m H σ env) (h : wpT T C hx e env st R (Wx g m H (WE W σ)))
    (k : ∀ b s m' H', Ext m m' H H' → SR g m' H' s → ER g m' H' σ env → R b s → Q b H') : rT g T C hx W e σ H Q :=
  ⟨m, env, st, SR_, ER_, wpT_mono O.MC e env st _ _ _ _ (fun b s hr m' H' e1 s1 => k b s m' H' e1 s1 (ER_.mono e1) hr) (fun _ _ z => z) h⟩
theorem go_A {as : A} {σ : L2.St} {H : Hp} {m : Mp} {env : Env} {st : Store} {Q : List V → Hp → Prop} {R : List D → Store → Prop} (SR_ : SR g m H st) (ER_ : ER g m H σ env) (h : wpA T C hx as env st R (Wx g m H (WE W σ)))
    (k : ∀ ds s m' H' vs, Ext m m' H H' → SR g m' H' s → ER g m' H' σ env → RDs g m' H' ds vs → R ds s → Q vs H') : rA g T C hx W as σ H Q :=
  ⟨m, env, st, SR_, ER_, wpA_mono O.MC as env st _ _ _ _ (fun ds s hr m' H' vs e1 s1 r1 => k ds s m' H' vs e1 s1 (ER_.mono e1) r1 hr) (fun _ _ z => z) h⟩
theorem x_E {e : E} {env : Env} {st : Store} {m m' : Mp} {H H' : Hp} {σ : L2.St} {R : QE} (e1 : Ext m m' H H') (h : wpE T C hx e env st R (Wx g m H (WE W σ))) : wpE T C hx e env st R (Wx g m' H' (WE W σ)) := wpE_mono O.MC e env st _ _ _ _ (fun _ _ z => z) (fun _ _ z => Wx.ext e1 z) h
theorem x_T {e : E} {env : Env} {st : Store} {m m' : Mp} {H H' : Hp} {σ : L2.St} {R : Bool → Store → Prop} (e1 : Ext m m' H H') (h : wpT T C hx e env st R (Wx g m H (WE W σ))) : wpT T C hx e env st R (Wx g m' H' (WE W σ)) := wpT_mono O.MC e env st _ _ _ _ (fun _ _ z => z) (fun _ _ z => Wx.ext e1 z) h
theorem x_A {as : A} {env : Env} {st : Store} {m m' : Mp} {H H' : Hp} {σ : L2.St} {R : List D → Store → Prop} (e1 : Ext m m' H H') (h : wpA T C hx as env st R (Wx g m H (WE W σ))) : wpA T C hx as env st R (Wx g m' H' (WE W σ)) := wpA_mono O.MC as env st _ _ _ _ (fun _ _ z => z) (fun _ _ z => Wx.ext e1 z) h
theorem s_var {i : Nat} {x : Str} {pos : Pos} (h1 : S.N[i]? = some x) (h2 : visB S x = true) (h3 : okN x = true) : PE X (.Name x pos) (rE g T C hx W (.var i)) := by
  refine PE.weak (pe_var (i := i) (by rw [O.N]; exact h1) (O.vis h2) (okN_1 h3) (okN_2 h3)) fun σ H Q ⟨m, env, st, SR_, ER_, h⟩ => ?_
  have h : getV env i (fun d => Wn g m H Q d st) := h
  unfold getV at h
  split at h
  · rename_i d e
    obtain ⟨v, e2, r⟩ := ER_.at_ i d e
    exact ⟨v, e2, Wn.here SR_ r h⟩
  · exact h.elim
theorem s_con {d : D} {c : Const} {k : Nat} {pos : Pos} (h1 : conB d c = true) : PE X (.Constant c k pos) (rE g T C hx W (.con d)) := by
  unfold conB at h1
  split at h1
  · exact PE.weak pe_non fun σ H Q ⟨m, env, st, SR_, ER_, h⟩ => Wn.non SR_ h
  · rename_i b c
    cases eq_of_beq h1
    exact PE.weak pe_bl fun σ H Q ⟨m, env, st, SR_, ER_, h⟩ => Wn.bl SR_ h
  · cases of_decide_eq_true h1
    exact PE.weak pe_int fun σ H Q ⟨m, env, st, SR_, ER_, h⟩ => Wn.int SR_ h
  · cases of_decide_eq_true h1
    exact PE.weak pe_str fun σ H Q ⟨m, env, st, SR_, ER_, h⟩ => Wn.str SR_ h
  · cases h1
theorem s_glo {k : Nat} {x : Str} {pos : Pos} (h1 : n.gl k = some x) (h2 : gloB S x = true) (h3 : okN x = true) : PE X (.Name x pos) (rE g T C hx W (.glo k)) := by
  cases e : T.glo k with
  | none =>
    refine ⟨fun pins s σ H Q I ⟨m, env, st, SR_, ER_, h⟩ => ?_⟩
    unfold wpE at h
    rw [e] at h
    exact h.elim
  | some d =>
    obtain ⟨u, v, e1, r, q⟩ := O.top.glo k d x e h1
    refine PE.weak (pe_glob (O.gl h2) e1 r (okN_1 h3)) fun σ H Q ⟨m, env, st, SR_, ER_, h⟩ => ?_
    unfold wpE at h
    rw [e] at h
    exact Wn.here SR_ (q m H) h
theorem s_bin {o : Op} {op : Operator} {a b : E} {ea eb : Expr} {pos : Pos} (h1 : opB o op = true) (ha : PE X ea (rE g T C hx W a)) (hb : PE X eb (rE g T C hx W b)) : PE X (.BinOp ea op eb pos) (rE g T C hx W (.bin o a b)) := by
  rw [opB_ok h1]
  refine PE.weak (pe_op (op_bin O.K o) ha hb) fun σ H Q ⟨m, env, st, SR_, ER_, h⟩ => ?_
  refine go_E O SR_ ER_ h fun x s1 m1 H1 v1 e1 S1 E1 r1 h1 => ?_
  refine go_E O S1 E1 (x_E O e1 h1) fun y s2 m2 H2 v2 e2 S2 E2 r2 h2 => ?_
  exact ⟨m2, s2, x, y, S2, RD.mono e2 _ _ r1, r2, binQ_mono (fun d s z => Wn.ext (e1.trans e2) z) h2⟩
theorem s_neg {a : E} {ea : Expr} {pos : Pos} (ha : PE X ea (rE g T C hx W a)) : PE X (.UnaryOp .USub ea pos) (rE g T C hx W (.neg a)) := by
  refine PE.weak (pe_un un_neg ha) fun σ H Q ⟨m, env, st, SR_, ER_, h⟩ => ?_
  refine go_E O SR_ ER_ h fun x s1 m1 H1 v1 e1 S1 E1 r1 h1 => ?_
  split at h1
  · cases rd_int r1
    exact ⟨_, rfl, Wn.int S1 (Wn.ext e1 h1)⟩
  · exact h1.elim
theorem s_cmp {o : Cm} {op : CmpOp} {a b : E} {ea eb : Expr} {pos : Pos} (h1 : cmB o op = true) (h2 : noSet eb = true) (ha : PE X ea (rE g T C hx W a)) (hb : PE X eb (rE g T C hx W b)) : PE X (.Compare ea [op] [eb] pos) (rE g T C hx W (.cmp o a b)) := by
  rw [cmB_ok h1]
  refine PE.weak (pe_cmpR (op_cm O.F O.K O.hu o) ha hb (noSet_mark h2)) fun σ H Q ⟨m, env, st, SR_, ER_, h⟩ => ?_
  refine go_E O SR_ ER_ h fun x s1 m1 H1 v1 e1 S1 E1 r1 h1 => ?_
  refine go_E O S1 E1 (x_E O e1 h1) fun y s2 m2 H2 v2 e2 S2 E2 r2 h2 => ?_
  exact ⟨m2, s2, x, y, S2, RD.mono e2 _ _ r1, r2, cmpQ_mono (fun b z => Wn.bl S2 (Wn.ext (e1.trans e2) z)) h2⟩
theorem t_cmp {o : Cm} {op : CmpOp} {a b : E} {ea eb : Expr} {pos : Pos} (h1 : cmB o op = true) (h2 : noSet eb = true) (ha : PE X ea (rE g T C hx W a)) (hb : PE X eb (rE g T C hx W b)) : PT X (.Compare ea [op] [eb] pos) (rT g T C hx W (.cmp o a b)) := by
  rw [cmB_ok h1]
  refine PT.weak (pt_cmpR (op_cm O.F O.K O.hu o) ha hb (noSet_mark h2)) fun σ H Q ⟨m, env, st, SR_, ER_, h⟩ => ?_
  refine go_E O SR_ ER_ h fun x s1 m1 H1 v1 e1 S1 E1 r1 h1 => ?_
  refine go_E O S1 E1 (x_E O e1 h1) fun y s2 m2 H2 v2 e2 S2 E2 r2 h2 => ?_
  exact ⟨m2, s2, x, y, S2, RD.mono e2 _ _ r1, r2, cmpQ_mono (fun b z => ⟨b, rfl, z m2 H2 (e1.trans e2) S2⟩) h2⟩
theorem last_mark {op op' : CmpOp} {b c : Expr} (h : noSet c = true) : lastMarks [op, op'] [b, c] = false := noSet_mark (op := op') h
theorem s_chain {o o' : Cm} {op op' : CmpOp} {a b c : E} {ea eb ec : Expr} {pos : Pos} (h1 : cmB o op = true) (h1' : cmB o' op' = true) (h2 : noSet ec = true) (ha : PE X ea (rE g T C hx W a)) (hb : PE X eb (rE g T C hx W b)) (hc : PE X ec (rE g T C hx W c)) :
    PE X (.Compare ea [op, op'] [eb, ec] pos) (rE g T C hx W (.chain o o' a b c)) := by
  rw [cmB_ok h1, cmB_ok h1']
  refine PE.weak (pe_chain (op_cm O.F O.K O.hu o) (op_cm O.F O.K O.hu o') ha hb hc (last_mark O h2)) fun σ H Q ⟨m, env, st, SR_, ER_, h⟩ => ?_
  refine go_E O SR_ ER_ h fun x s1 m1 H1 v1 e1 S1 E1 r1 h1 => ?_
  refine go_E O S1 E1 (x_E O e1 h1) fun y s2 m2 H2 v2 e2 S2 E2 r2 h2 => ?_
  refine ⟨m2, s2, x, y, S2, RD.mono e2 _ _ r1, r2, cmpQ_mono (fun k z => ⟨k, rfl, ?_⟩) h2⟩
  cases k with
  | false =>
    rw [if_neg Bool.false_ne_true] at z ⊢
    exact Wn.bl S2 (Wn.ext (e1.trans e2) z)
  | true =>
    rw [if_pos rfl] at z ⊢
    refine go_E O S2 E2 (x_E O (e1.trans e2) z) fun w s3 m3 H3 v3 e3 S3 E3 r3 h3 => ?_
    exact ⟨m3, s3, y, w, S3, RD.mono e3 _ _ r2, r3, cmpQ_mono (fun b z => Wn.bl S3 (Wn.ext ((e1.trans e2).trans e3) z)) h3⟩
theorem t_chain {o o' : Cm} {op op' : CmpOp} {a b c : E} {ea eb ec : Expr} {pos : Pos} (h1 : cmB o op = true) (h1' : cmB o' op' = true) (h2 : noSet ec = true) (ha : PE X ea (rE g T C hx W a)) (hb : PE X eb (rE g T C hx W b)) (hc : PE X ec (rE g T C hx W c)) :
    PT X (.Compare ea [op, op'] [eb, ec] pos) (rT g T C hx W (.chain o o' a b c)) := by
  rw [cmB_ok h1, cmB_ok h1']
  refine PT.weak (pt_chain (op_cm O.F O.K O.hu o) (op_cm O.F O.K O.hu o') ha hb hc (last_mark O h2)) fun σ H Q ⟨m, env, st, SR_, ER_, h⟩ => ?_
  refine go_E O SR_ ER_ h fun x s1 m1 H1 v1 e1 S1 E1 r1 h1 => ?_
  refine go_E O S1 E1 (x_E O e1 h1) fun y s2 m2 H2 v2 e2 S2 E2 r2 h2 => ?_
  refine ⟨m2, s2, x, y, S2, RD.mono e2 _ _ r1, r2, cmpQ_mono (fun k z => ⟨k, rfl, ?_⟩) h2⟩
  cases k with
  | false =>
    rw [if_neg Bool.false_ne_true] at z ⊢
    exact ⟨false, rfl, z m2 H2 (e1.trans e2) S2⟩
  | true =>
    rw [if_pos rfl] at z ⊢
    refine go_E O S2 E2 (x_E O (e1.trans e2) z) fun w s3 m3 H3 v3 e3 S3 E3 r3 h3 => ?_
    exact ⟨m3, s3, y, w, S3, RD.mono e3 _ _ r2, r3, cmpQ_mono (fun b z => ⟨b, rfl, z m3 H3 ((e1.trans e2).trans e3) S3⟩) h3⟩
theorem non_iff {m : Mp} {H : Hp} {d : D} {v : V} (r : RD g m H d v) : decide (v = V.non) = decide (d = D.non) := by
  cases d with
  | non => cases rd_non r; rfl
  | bl b => cases rd_bl r; rfl
  | int i => cases rd_int r; rfl
  | str x => cases rd_str r; rfl
  | tup ds => obtain ⟨a, vs, rfl, _⟩ := rd_tup r; rfl
  | ref h => obtain ⟨a, rfl, _⟩ := rd_ref r; rfl
  | kon k => cases (show v = .ref (g.ka k) from r); rfl
theorem s_isN {a : E} {ea : Expr} {j : Nat} {pos pos' : Pos} (ha : PE X ea (rE g T C hx W a)) : PE X (.Compare ea [.Is] [.Constant .none j pos'] pos) (rE g T C hx W (.isN a)) := by
  refine PE.weak (pe_cmp (pc_isN ha) rfl) fun σ H Q ⟨m, env, st, SR_, ER_, h⟩ => ?_
  refine go_E O SR_ ER_ h fun x s1 m1 H1 v1 e1 S1 E1 r1 h1 => ?_
  rw [non_iff O r1]
  exact Wn.bl S1 (Wn.ext e1 h1)
theorem s_notN {a : E} {ea : Expr} {j : Nat} {pos pos' : Pos} (ha : PE X ea (rE g T C hx W a)) : PE X (.Compare ea [.IsNot] [.Constant .none j pos'] pos) (rE g T C hx W (.notN a)) := by
  refine PE.weak (pe_cmp (pc_notN ha) rfl) fun σ H Q ⟨m, env, st, SR_, ER_, h⟩ => ?_
  refine go_E O SR_ ER_ h fun x s1 m1 H1 v1 e1 S1 E1 r1 h1 => ?_
  rw [non_iff O r1]
  exact Wn.bl S1 (Wn.ext e1 h1)
theorem t_isN {a : E} {ea : Expr} {j : Nat} {pos pos' : Pos} (ha : PE X ea (rE g T C hx W a)) : PT X (.Compare ea [.Is] [.Constant .none j pos'] pos) (rT g T C hx W (.isN a)) := by
  refine PT.weak (pt_cmp (pc_isN ha) rfl) fun σ H Q ⟨m, env, st, SR_, ER_, h⟩ => ?_
  refine go_E O SR_ ER_ h fun x s1 m1 H1 v1 e1 S1 E1 r1 h1 => ?_
  rw [non_iff O r1]
  exact ⟨_, rfl, h1 m1 H1 e1 S1⟩
theorem t_notN {a : E} {ea : Expr} {j : Nat} {pos pos' : Pos} (ha : PE X ea (rE g T C hx W a)) : PT X (.Compare ea [.IsNot] [.Constant .none j pos'] pos) (rT g T C hx W (.notN a)) := by
  refine PT.weak (pt_cmp (pc_notN ha) rfl) fun σ H Q ⟨m, env, st, SR_, ER_, h⟩ => ?_
  refine go_E O SR_ ER_ h fun x s1 m1 H1 v1 e1 S1 E1 r1 h1 => ?_
  rw [non_iff O r1]
  exact ⟨_, rfl, h1 m1 H1 e1 S1⟩
theorem s_and {a b : E} {x y : Expr} {r : List Expr} {pos : Pos} (ha : PE X x (rE g T C hx W a)) (hb : PE X (.BoolOp .And (y :: r) pos) (rE g T C hx W b)) : PE X (.BoolOp .And (x :: y :: r) pos) (rE g T C hx W (.and a b)) := by
  refine PE.weak (pe_and ha hb) fun σ H Q ⟨m, env, st, SR_, ER_, h⟩ => ?_
  refine go_E O SR_ ER_ h fun x s1 m1 H1 v1 e1 S1 E1 r1 h1 => ?_
  split at h1
  · cases rd_bl r1
    refine ⟨_, rfl, ?_⟩
    split at h1
    · rename_i e
      rw [if_pos e]
      exact rE_of S1 E1 (wpE_mono O.MC b env s1 _ _ _ _ (fun _ _ z => Wn.ext e1 z) (fun _ _ z => Wx.ext e1 z) h1)
    · rename_i e
      rw [if_neg e]
      exact Wn.bl S1 (Wn.ext e1 h1)
  · exact h1.elim
theorem s_or {a b : E} {x y : Expr} {r : List Expr} {pos : Pos} (ha : PE X x (rE g T C hx W a)) (hb : PE X (.BoolOp .Or (y :: r) pos) (rE g T C hx W b)) : PE X (.BoolOp .Or (x :: y :: r) pos) (rE g T C hx W (.or a b)) := by
  refine PE.weak (pe_or ha hb) fun σ H Q ⟨m, env, st, SR_, ER_, h⟩ => ?_
  refine go_E O SR_ ER_ h fun x s1 m1 H1 v1 e1 S1 E1 r1 h1 => ?_
  split at h1
  · cases rd_bl r1
    refine ⟨_, rfl, ?_⟩
    split at h1
    · rename_i e
      rw [if_pos e]
      exact Wn.bl S1 (Wn.ext e1 h1)
    · rename_i e
      rw [if_neg e]
      exact rE_of S1 E1 (wpE_mono O.MC b env s1 _ _ _ _ (fun _ _ z => Wn.ext e1 z) (fun _ _ z => Wx.ext e1 z) h1)
  · exact h1.elim
theorem s_not {a : E} {ea : Expr} {pos : Pos} (ha : PE X ea (rE g T C hx W a)) : PE X (.UnaryOp .Not ea pos) (rE g T C hx W (.not a)) := by
  refine PE.weak (pe_not ha) fun σ H Q ⟨m, env, st, SR_, ER_, h⟩ => ?_
  refine go_E O SR_ ER_ h fun x s1 m1 H1 v1 e1 S1 E1 r1 h1 => ?_
  split at h1
  · cases rd_bl r1
    exact ⟨_, rfl, Wn.bl S1 (Wn.ext e1 h1)⟩
  · exact h1.elim
theorem w_and {a b : E} {x y : Expr} {r : List Expr} {pos : Pos} (ha : PT X x (rT g T C hx W a)) (hb : PW X (.BoolOp .And (y :: r) pos) (rT g T C hx W b)) : PW X (.BoolOp .And (x :: y :: r) pos) (rT g T C hx W (.and a b)) := by
  refine PW.weak (pw_and ha hb) fun σ H Q ⟨m, env, st, SR_, ER_, h⟩ => ?_
  refine go_T O SR_ ER_ h fun k s1 m1 H1 e1 S1 E1 h1 => ?_
  cases k with
  | true =>
    rw [if_pos rfl] at h1 ⊢
    exact ⟨m1, env, s1, S1, E1, wpT_mono O.MC b env s1 _ _ _ _ (fun k s z m' H' e2 => z m' H' (e1.trans e2)) (fun _ _ z => Wx.ext e1 z) h1⟩
  | false =>
    rw [if_neg Bool.false_ne_true] at h1 ⊢
    exact h1 m1 H1 e1 S1
theorem w_or {a b : E} {x y : Expr} {r : List Expr} {pos : Pos} (ha : PT X x (rT g T C hx W a)) (hb : PW X (.BoolOp .Or (y :: r) pos) (rT g T C hx W b)) : PW X (.BoolOp .Or (x :: y :: r) pos) (rT g T C hx W (.or a b)) := by
  refine PW.weak (pw_or ha hb) fun σ H Q ⟨m, env, st, SR_, ER_, h⟩ => ?_
  refine go_T O SR_ ER_ h fun k s1 m1 H1 e1 S1 E1 h1 => ?_
  cases k with
  | true =>
    rw [if_pos rfl] at h1 ⊢
    exact h1 m1 H1 e1 S1
  | false =>
    rw [if_neg Bool.false_ne_true] at h1 ⊢
    exact ⟨m1, env, s1, S1, E1, wpT_mono O.MC b env s1 _ _ _ _ (fun k s z m' H' e2 => z m' H' (e1.trans e2)) (fun _ _ z => Wx.ext e1 z) h1⟩
theorem t_not {a : E} {ea : Expr} {pos : Pos} (ha : PT X ea (rT g T C hx W a)) : PT X (.UnaryOp .Not ea pos) (rT g T C hx W (.not a)) := by
  refine PT.weak (pt_not ha) fun σ H Q ⟨m, env, st, SR_, ER_, h⟩ => ?_
  exact go_T O SR_ ER_ h fun k s1 m1 H1 e1 S1 E1 h1 => h1 m1 H1 e1 S1
theorem t_tv {a : E} {ea : Expr} (h1 : tvB ea = true) (ha : PE X ea (rE g T C hx W a)) : PT X ea (rT g T C hx W (.tv a)) := by
  refine PT.weak (pt_truth ha (tv_true h1)) fun σ H Q ⟨m, env, st, SR_, ER_, h⟩ => ?_
  refine go_E O SR_ ER_ h fun x s1 m1 H1 v1 e1 S1 E1 r1 h1 => ?_
  obtain ⟨k, h2, h3⟩ := tru_val O.K S1 r1 h1
  exact ⟨k, h2, h3 m1 H1 e1 S1⟩
theorem s_ife {c a b : E} {ec ea eb : Expr} {pos : Pos} (hc : PT X ec (rT g T C hx W c)) (ha : PE X ea (rE g T C hx W a)) (hb : PE X eb (rE g T C hx W b)) : PE X (.IfExp ec ea eb pos) (rE g T C hx W (.ife c a b)) := by
  refine PE.weak (pe_ifExp hc ha hb) fun σ H Q ⟨m, env, st, SR_, ER_, h⟩ => ?_
  refine go_T O SR_ ER_ h fun k s1 m1 H1 e1 S1 E1 h1 => ?_
  cases k with
  | true =>
    rw [if_pos rfl] at h1 ⊢
    exact rE_of S1 E1 (wpE_mono O.MC a env s1 _ _ _ _ (fun _ _ z => Wn.ext e1 z) (fun _ _ z => Wx.ext e1 z) h1)
  | false =>
    rw [if_neg Bool.false_ne_true] at h1 ⊢
    exact rE_of S1 E1 (wpE_mono O.MC b env s1 _ _ _ _ (fun _ _ z => Wn.ext e1 z) (fun _ _ z => Wx.ext e1 z) h1)
end
end
end Y
set_option linter.all false
set_option maxHeartbeats 4000000
set_option maxRecDepth 100000
namespace Y
open PySem PySem.Spec PyProof.Rows L2
theorem lookup_mem {α : Type} {c : Nat} {f : α} : ∀ {alts : List (Nat × α)}, alts.lookup c = some f → (c, f) ∈ alts
  | [], h => by cases h
  | (k, p) :: r, h => by
    rw [List.lookup_cons] at h
    by_cases z : c = k
    · subst z
      rw [beq_self_eq_true] at h
      cases h
      exact List.mem_cons_self
    · rw [show (c == k) = false from Bool.eq_false_iff.mpr fun hb => z (eq_of_beq hb)] at h
      exact List.mem_cons_of_mem _ (lookup_mem h)
theorem rf_none {g : G} {m : Mp} {H : Hp} {x : Str} (hn : ∀ k, g.nm k ≠ some x) : ∀ {fs : List (Nat × D)} {vs : List (Str × V)}, RF g m H fs vs → vs.lookup x = none
  | _, _, .nil => rfl
  | p :: _, (w, u) :: _, .cons hp t => by
    rw [List.lookup_cons, show (x == w) = false from Bool.eq_false_iff.mpr fun hb => hn p.1 (by rw [eq_of_beq hb]; exact hp.1)]
    exact rf_none hn t
theorem rf_get {g : G} {m : Mp} {H : Hp} {x : Str} {f : Nat} {d : D} (nmi : ∀ f f' x, g.nm f = some x → g.nm f' = some x → f = f') (hf : g.nm f = some x) : ∀ {fs : List (Nat × D)} {vs : List (Str × V)}, RF g m H fs vs → fs.lookup f = some d → ∃ v, vs.lookup x = some v ∧ RD g m H d v
  | _, _, .nil, h => by cases h
  | (k, e) :: _, (w, u) :: _, .cons hp t, h => by
    rw [List.lookup_cons] at h
    by_cases z : f = k
    · subst z
      rw [beq_self_eq_true] at h
      cases h
      have e2 : x = w := Option.some.inj (hf.symm.trans hp.1)
      subst e2
      exact ⟨u, by rw [List.lookup_cons, beq_self_eq_true], hp.2⟩
    · rw [show (f == k) = false from Bool.eq_false_iff.mpr fun hb => z (eq_of_beq hb)] at h
      have ne : (x == w) = false := by
        apply Bool.eq_false_iff.mpr
        intro hb
        have hb : x = w := eq_of_beq hb
        subst hb
        exact z (nmi f k x hf hp.1)
      rw [List.lookup_cons, ne]
      exact rf_get nmi hf t h
section
variable {g : G} {X : Cx}
theorem type_oth {m : Mp} {H : Hp} {st : Store} {pins : List (Addr × Obj)} {σ : L2.St} {s : Shared} {c : Nat} {d : D} {v : V} {u : Value} (hK : X.K = g.K) (I : Inv X pins σ H s) (S1 : SR g m H st) (r : RD g m H d v) (ru : RelV v u) (h : othB st c d = true) :
    ∃ tb, PySem.W.Looks (model X.prog X.w) s.heap (typeOf u) tb ∧ PySem.W.notFirst X.K (g.ca c) tb = true := by
  have bt : ∀ {T : String} {l : List Value}, fastBuiltinMro T = some l → (l.contains (.ref (g.ca c))) = false → PySem.W.notFirst X.K (g.ca c) (.type T) = true := fun {T l} e q => by
    have : PySem.W.subIn X.K (.type T) (.ref (g.ca c)) = some false := by
      show (fastBuiltinMro T).map (·.contains (Value.ref (g.ca c))) = some false
      rw [e]
      exact congrArg some q
    unfold PySem.W.notFirst
    rw [this]
    simp
  have nc : ∀ xs : List String, ((xs.map Value.type).contains (Value.ref (g.ca c))) = false := fun xs => by
    induction xs with
    | nil => rfl
    | cons x xs ih =>
      rw [List.map_cons, List.contains_cons, ih]
      rfl
  cases d with
  | non =>
    cases rd_non r
    cases (show u = Value.none from ru)
    exact ⟨.type "NoneType", .now, bt (l := ["NoneType", "object"].map Value.type) (by decide +kernel) (nc _)⟩
  | int i =>
    cases rd_int r
    obtain ⟨t, rfl⟩ := (show ∃ t, u = Value.int i t from ru)
    exact ⟨.type "int", .now, bt (l := ["int", "object"].map Value.type) (by decide +kernel) (nc _)⟩
  | str x =>
    cases rd_str r
    obtain ⟨t, rfl⟩ := (show ∃ t, u = Value.str _ t from ru)
    exact ⟨.type "str", .now, bt (l := ["str", "object"].map Value.type) (by decide +kernel) (nc _)⟩
  | tup ds =>
    obtain ⟨a, vs, rfl, h1, _⟩ := rd_tup r
    cases (show u = Value.ref a from ru)
    obtain ⟨us, _, t1, _⟩ := I.tuple (hK ▸ h1)
    obtain ⟨o, ho, hc, _⟩ := t1
    have z : PySem.W.Looks (model X.prog X.w) s.heap (typeOf (.ref a)) o.cls := (PySem.W.Looks.ld ho).andThen .now
    rw [hc] at z
    exact ⟨.type "tuple", z, bt (l := ["tuple", "object"].map Value.type) (by decide +kernel) (nc _)⟩
  | ref k =>
    obtain ⟨a, rfl, ea⟩ := rd_ref r
    cases (show u = Value.ref a from ru)
    unfold othB at h
    dsimp only at h
    split at h
    · rename_i ds e
      obtain ⟨vs, h1, _⟩ := S1.lst ea e
      obtain ⟨us, _, t1, _⟩ := I.list (SqL.of h1)
      obtain ⟨o, n, ho, hc, _, _⟩ := t1
      have z : PySem.W.Looks (model X.prog X.w) s.heap (typeOf (.ref a)) o.cls := (PySem.W.Looks.ld ho).andThen .now
      rw [hc] at z
      exact ⟨.type "list", z, bt (l := ["list", "object"].map Value.type) (by decide +kernel) (nc _)⟩
    · rename_i c' fs e
      obtain rfl := of_decide_eq_true h
      obtain ⟨dx, vs, hH, _, _⟩ := S1.get ea e
      obtain ⟨mB, J', _⟩ := ins_get I.hok hH
      obtain ⟨od', J', _⟩ := J'.look
      exact ⟨_, J'.type, by simp [PySem.W.notFirst]⟩
    · cases h
  | _ => cases h
end
theorem cls_at {st : Store} {d : D} {c : Nat} (h : clsOf st d = some c) : ∃ k fs, d = .ref k ∧ st[k]? = some (.ins c fs) := by
  unfold clsOf at h
  split at h
  · split at h
    · rename_i e
      cases h
      exact ⟨_, _, rfl, e⟩
    · cases h
  · cases h
section
variable {g : G} {T : Tab} {n : Nm} {C : Calls} {L : Nat} {hx : Option Exc} {W : WX} {S : Sta} {X : Cx}
section
variable (O : CxOk g T n C L hx W S X)
include O
theorem call_run {pins : List (Addr × Obj)} {σ : L2.St} {H : Hp} {s : Shared} {Q : VK} {us : List Value} {vs : List V} {m : Mp} {st : Store} {f : Nat} {ds df : List D} (hn : hx = none) (I : Inv X pins σ H s) (S1 : SR g m H st)
    (r : RDs g m H ds vs) (rv : Vals vs us) (hd : df = [] ∨ df = n.df f) (h : C f (ds ++ df) st (Wn g m H Q) (Wx g m H (WE W σ))) : wpAny (model X.prog X.w) X.A (call (.ref (g.fa f)) us) (EP X pins σ Q) X.xe s := by
  obtain ⟨fd, ps, F, b, b2⟩ := (O.cal hn _ _ _ _ _ h).ok
  rw [← O.K] at F b b2
  have hr := (O.room hn).mono (Nat.le_succ _)
  rcases hd with rfl | rfl
  · exact run_at F hr b .nil O.tk I rv ⟨m, st, ds ++ [], S1, by rw [List.append_nil, List.append_nil]; exact r, h⟩
  · by_cases z : n.df f = []
    · rw [z] at h
      exact run_at F hr b .nil O.tk I rv ⟨m, st, ds ++ [], S1, by rw [List.append_nil, List.append_nil]; exact r, h⟩
    · obtain ⟨es, dvs, v1, b3, q⟩ := b2 z
      exact run_at F hr b3 v1 O.tk I rv ⟨m, st, ds ++ n.df f, S1, r.app (q m H), h⟩
theorem nil_of {as : A} {args : List Expr} (h : ckA n as S args = true) (e : args = []) : as = .nil := by
  subst e
  cases as with
  | nil => rfl
  | cons a b => cases h
theorem s_call {f : Nat} {as : A} {df : List D} {x : Str} {p pos : Pos} {args : List Expr} (h1 : n.fn f = some x) (h2 : df = [] ∨ df = n.df f) (h3 : gloB S x = true) (h4 : okN x = true) (h5 : noStars args = true) (h6 : args = [] → as = .nil)
    (ha : PA X args (rA g T C hx W as)) : PE X (.Call (.Name x p) args [] pos) (rE g T C hx W (.call f as df)) := by
  refine ⟨fun pins s σ H Q I ⟨m, env, st, SR_, ER_, hn, h⟩ => ?_⟩
  obtain ⟨hm, hk⟩ := O.top.fn f x h1
  rw [← O.K] at hk
  refine wpAny_Call_Name_kw (ld_glob I (O.gl h3) hm ?_ (okN_1 h4))
  cases args with
  | nil =>
    rw [h6 rfl] at h
    exact PySem.W.callWith_K0 I.kIn hk (call_run O (us := []) (vs := []) hn I SR_ .nil .nil h2 h)
  | cons e es =>
    have h50 : noStars (e :: es) = true := h5
    have h5 : (noStar e && noStars es) = true := h5
    rw [Bool.and_eq_true] at h5
    refine PySem.W.callWith_K (h₀ := X.base) I.ok.mod.kin hk (thn (ha.run pos pins s σ H (fun vs H1 => ∃ m1 s1 ds, SR g m1 H1 s1 ∧ RDs g m1 H1 ds vs ∧ C f (ds ++ df) s1 (Wn g m1 H1 Q) (Wx g m1 H1 (WE W σ))) I ?_) fun us s1 ⟨vs, H1, I1, r, q⟩ => ⟨I1.kIn, ?_⟩) (star_cons h5.1) (star_any h5.2)
    · exact go_A O SR_ ER_ h fun ds s1 m1 H1 vs e1 S1 E1 r1 z => ⟨m1, s1, ds, S1, r1, O.MC _ _ _ _ _ _ _ (fun d s z => Wn.ext e1 z) (fun x s z => Wx.ext e1 z) z⟩
    · obtain ⟨m1, s1, ds, S1, r1, z⟩ := q
      exact call_run O hn I1 S1 r1 r h2 z
theorem make_run {pins : List (Addr × Obj)} {σ : L2.St} {H : Hp} {s : Shared} {Q : VK} {us : List Value} {vs : List V} {m : Mp} {st : Store} {c f : Nat} {x : Str} {ds : List D} (hn : hx = none) (h1 : n.cl c = some x) (h2 : n.mk_ c = some f) (I : Inv X pins σ H s) (S1 : SR g m H st)
    (r : RDs g m H ds vs) (rv : Vals vs us) (h : C f (.ref st.length :: ds) (st ++ [.ins c []]) (fun d s2 => d = .non ∧ Wn g m H Q (.ref st.length) s2) (Wx g m H (WE W σ))) : wpAny (model X.prog X.w) X.A (call (.ref (g.ca c)) us) (EP X pins σ Q) X.xe s := by
  obtain ⟨fd, ps, F, b, b2⟩ := (O.cal hn _ _ _ _ _ h).ok
  have M := O.top.mk_ c f h2
  rw [← O.K] at F b b2 M
  refine make_at M F (O.room hn) b O.tk I rv fun p dx np nd ne => ?_
  have n2 : upd H dx (.own p) p = none := by rw [upd_ne ne.symm]; exact np
  have e1 : Ext m (put m st.length p) H (upd (upd H dx (.own p)) p (.ins (g.ca c) dx [])) := (ext_new nd fun _ _ z => z).trans (ext_new n2 (put_mm S1))
  have S2 := (S1.fresh (u := .own p) nd).alloc (u := .ins (g.ca c) dx []) (o := .ins c []) n2 rfl ⟨dx, [], upd_same, .nil, by rw [O.top.okc, h1]; rfl⟩
  refine ⟨put m st.length p, st ++ [.ins c []], .ref st.length :: ds, S2, .cons ⟨p, rfl, put_same⟩ (RDs.mono e1 _ _ r), O.MC _ _ _ _ _ _ _ (fun d s2 z m' H' v e2 S3 rv => ?_) (fun x s z => Wx.ext e1 z) h⟩
  obtain ⟨rfl, z⟩ := z
  cases rd_non rv
  exact ⟨rfl, z m' H' _ (e1.trans e2) S3 ⟨p, rfl, e2.mm _ _ put_same⟩⟩
theorem s_make {c f : Nat} {as : A} {x : Str} {p pos : Pos} {args : List Expr} (h1 : n.cl c = some x) (h2 : n.mk_ c = some f) (h3 : gloB S x = true) (h4 : okN x = true) (h5 : noStars args = true) (h6 : args = [] → as = .nil)
    (ha : PA X args (rA g T C hx W as)) : PE X (.Call (.Name x p) args [] pos) (rE g T C hx W (.make c f as)) := by
  refine ⟨fun pins s σ H Q I ⟨m, env, st, SR_, ER_, hn, h⟩ => ?_⟩
  obtain ⟨hm, _⟩ := O.top.cl c x h1
  have hk := (O.top.mk_ c f h2).kp
  rw [← O.K] at hk
  refine wpAny_Call_Name_kw (ld_glob I (O.gl h3) hm ?_ (okN_1 h4))
  cases args with
  | nil =>
    rw [h6 rfl] at h
    exact PySem.W.callWith_K0 I.kIn hk (make_run O (us := []) (vs := []) hn h1 h2 I SR_ .nil .nil h)
  | cons e es =>
    have h5 : (noStar e && noStars es) = true := h5
    rw [Bool.and_eq_true] at h5
    refine PySem.W.callWith_K (h₀ := X.base) I.ok.mod.kin hk (thn (ha.run pos pins s σ H (fun vs H1 => ∃ m1 s1 ds, SR g m1 H1 s1 ∧ RDs g m1 H1 ds vs ∧ C f (.ref s1.length :: ds) (s1 ++ [.ins c []]) (fun d s2 => d = .non ∧ Wn g m1 H1 Q (.ref s1.length) s2) (Wx g m1 H1 (WE W σ))) I ?_) fun us s1 ⟨vs, H1, I1, r, q⟩ => ⟨I1.kIn, ?_⟩) (star_cons h5.1) (star_any h5.2)
    · exact go_A O SR_ ER_ h fun ds s1 m1 H1 vs e1 S1 E1 r1 z => ⟨m1, s1, ds, S1, r1, O.MC _ _ _ _ _ _ _ (fun d s z => ⟨z.1, Wn.ext e1 z.2⟩) (fun x s z => Wx.ext e1 z) z⟩
    · obtain ⟨m1, s1, ds, S1, r1, z⟩ := q
      exact make_run O hn h1 h2 I1 S1 r1 r z
theorem ht_of {eo : Expr} {x : Str} {apos pos : Pos} {args : List Expr} (h2 : dotB eo = true) (h3 : (apos.endLine == pos.line) = true) (h4 : args.length < 30) (h5 : noStars args = true) :
    eval (.Call (.Attribute eo x apos) args [] pos) X.env = (do
      let ov ← eval eo X.env
      standAt apos.atName
      let (f, first) ← holding [ov] (getMethod ov x (do return (← importBound eo X.env).getD true))
      callWith pos f first (backTo pos (starEach args X.env)) (backToKw pos (keywordEach [] X.env))) := by
  rw [PySem.arm_eval_Call]
  unfold methodCall
  have few : methodCallForm (args.length + ([] : List Keyword).length) (backTo pos (starEach args X.env)) (backToKw pos (keywordEach [] X.env)) = true := by
    show ((backTo pos (starEach args X.env)).all (fun x => !x.1) && (backToKw pos (keywordEach [] X.env)).all (fun x => x.1.isSome) && decide (args.length + 0 + 0 < 30)) = true
    rw [star_len h5, decide_eq_true (by omega)]
    rfl
  rw [few, dot_base h2]
  have mp : methodCallPos true eo X.env apos pos = pure pos := by
    unfold methodCallPos
    rw [h3]
    rfl
  rw [mp]
  rfl
theorem s_meth {alts : List (Nat × Nat)} {o : E} {as : A} {eo : Expr} {x : Str} {apos pos : Pos} {args : List Expr} (h1 : (alts.all fun p => decide (n.mt p.1 p.2 = some x)) = true) (h2 : dotB eo = true) (h3 : (apos.endLine == pos.line) = true) (h4 : args.length < 30) (h5 : noStars args = true)
    (h6 : args = [] → as = .nil) (ho : PE X eo (rE g T C hx W o)) (ha : PA X args (rA g T C hx W as)) : PE X (.Call (.Attribute eo x apos) args [] pos) (rE g T C hx W (.meth alts o as)) := by
  refine ⟨fun pins s σ H Q I ⟨m, env, st, SR_, ER_, hn, h⟩ => ?_⟩
  refine PySem.W.methodCall_KW (pl := do return (← importBound eo X.env).getD true) (thn (ho.run pins s σ H (fun v H1 => ∃ (h : Nat) (a : Addr) (c f : Nat) (fs : List (Nat × D)) (m1 : Mp) (s1 : Store), v = .ref a ∧ m1 h = some a ∧ SR g m1 H1 s1 ∧ ER g m1 H1 σ env ∧ s1[h]? = some (.ins c fs) ∧ alts.lookup c = some f ∧
    wpA T C hx as env s1 (fun ds s2 => C f (.ref h :: ds) s2 (Wn g m1 H1 Q) (Wx g m1 H1 (WE W σ))) (Wx g m1 H1 (WE W σ))) I ?_) fun u s1 ⟨v, H1, I1, rx, q⟩ => ?_) (ht_of O h2 h3 h4 h5)
  · refine go_E O SR_ ER_ h fun y s1 m1 H1 v1 e1 S1 E1 r1 z => ?_
    split at z
    · split at z
      · split at z
        · obtain ⟨a, rfl, ea⟩ := rd_ref r1
          exact ⟨_, a, _, _, _, m1, s1, rfl, ea, S1, E1, by assumption, by assumption, wpA_mono O.MC as env s1 _ _ _ _ (fun ds s2 z2 => O.MC _ _ _ _ _ _ _ (fun d s z => Wn.ext e1 z) (fun x s z => Wx.ext e1 z) z2) (fun x s z => Wx.ext e1 z) z⟩
        · exact z.elim
      · exact z.elim
    · exact z.elim
  · obtain ⟨h', a, c, f, fs, m1, st1, rfl, ea, S1, E1, eh, el, z⟩ := q
    obtain rfl : u = Value.ref a := rx
    obtain ⟨dx, vs, hH, rf, okc⟩ := S1.get ea eh
    have okc2 : ∃ y, n.cl c = some y := by
      rw [O.top.okc] at okc
      exact Option.isSome_iff_exists.mp okc
    obtain ⟨y, hy⟩ := okc2
    have nf : n.mt c f = some x := by
      have mem : (c, f) ∈ alts := lookup_mem el
      exact of_decide_eq_true (List.all_eq_true.mp h1 _ mem)
    have ml : vs.lookup x = none := rf_none (fun k => by
      have z := O.top.nofd c f x k nf
      rw [← O.top.nm] at z
      exact z) rf
    have cl := (O.top.cl c y hy).2.cl
    have me := O.top.mt c f x nf
    rw [← O.K] at cl me
    refine getmeth_ok I1 hH cl me ml ?_
    cases args with
    | nil =>
      rw [h6 rfl] at z
      exact PySem.W.callWith_K0 (first := [.ref a]) I1.kIn me.kp (call_run O (us := [.ref a]) (vs := [.ref a]) (ds := [.ref h']) hn I1 S1 (.one ⟨a, rfl, ea⟩) (.cons rfl .nil) (.inl rfl) (by rw [List.append_nil]; exact z))
    | cons e es =>
      have h5 : (noStar e && noStars es) = true := h5
      rw [Bool.and_eq_true] at h5
      refine PySem.W.callWith_K (first := [.ref a]) (h₀ := X.base) I1.ok.mod.kin me.kp (thn (ha.run pos pins s1 σ H1 (fun vs H2 => ∃ m2 s2 ds, SR g m2 H2 s2 ∧ RDs g m2 H2 (.ref h' :: ds) (.ref a :: vs) ∧ C f (.ref h' :: ds) s2 (Wn g m2 H2 Q) (Wx g m2 H2 (WE W σ))) I1 ?_) fun us s2 ⟨vs, H2, I2, r, q⟩ => ⟨I2.kIn, ?_⟩) (star_cons h5.1) (star_any h5.2)
      · exact go_A O S1 E1 z fun ds s2 m2 H2 vs e2 S2 E2 r2 z2 => ⟨m2, s2, ds, S2, .cons ⟨a, rfl, e2.mm _ _ ea⟩ r2, O.MC _ _ _ _ _ _ _ (fun d s z => Wn.ext e2 z) (fun x s z => Wx.ext e2 z) z2⟩
      · obtain ⟨m2, s2, ds, S2, r2, z2⟩ := q
        exact call_run O (us := .ref a :: us) (vs := .ref a :: vs) hn I2 S2 r2 (.cons rfl r) (.inl rfl) (by rw [List.append_nil]; exact z2)
def rOwn (g : G) (C : Calls) (c f : Nat) : R2 := fun x y H Q => ∃ m st dx dy, SR g m H st ∧ RD g m H dx x ∧ RD g m H dy y ∧ clsOf st dx = some c ∧ othB st c dy = true ∧ C f [dx, dy] st (fun d s => (∃ b, d = .bl b) ∧ Wn g m H Q d s) (fun _ _ => False)
theorem op_own {c f : Nat} (hn : hx = none) (h1 : n.mt c f = some "__eq__") : OpR X (compareOp .Eq) (rOwn g C c f) := by
  intro pins s σ H x y v u Q I rx ry h
  obtain ⟨m, st, dx, dy, S1, r1, r2, c1, c2, h⟩ := h
  obtain ⟨k1, fs1, rfl, e1⟩ := cls_at c1
  have r1' := r1
  obtain ⟨a, rfl, ea⟩ := rd_ref r1
  cases (show v = Value.ref a from rx)
  obtain ⟨dx1, vs1, hH1, _, _⟩ := S1.get ea e1
  obtain ⟨tb, ht, hf⟩ := type_oth O.K I S1 r2 ry c2
  have me := O.top.mt c f _ h1
  rw [← O.K] at me
  have hu := O.hu
  obtain ⟨mA, J, _⟩ := ins_get I.hok hH1
  obtain ⟨od, J, _⟩ := J.look
  obtain ⟨mF, hF⟩ := I.fr
  refine PySem.W.cmp_K (op := .Eq) (tb := tb) (by omega) hF I.ok.mod.kin J ht hf me.at_ me.fn ?_
  have run := call_run O (Q := fun v H' => (∃ b, v = .bl b) ∧ Q v H') (σ := σ) (us := [.ref a, u]) (vs := [.ref a, y]) (ds := [.ref k1, dy]) (df := []) (f := f) hn I S1 (.cons r1' (.one r2)) (.cons rfl (.cons ry .nil)) (.inl rfl)
    (by
      rw [List.append_nil]
      refine O.MC _ _ _ _ _ _ _ (fun d s h => ?_) (fun _ _ h => h.elim) h
      obtain ⟨⟨bb, rfl⟩, h⟩ := h
      intro m' H' w ex S' r'
      exact ⟨⟨bb, rd_bl r'⟩, h m' H' w ex S' r'⟩)
  refine wpAny_mono run (fun w s' z => ?_) fun _ _ z => z
  obtain ⟨z, H', I', rz, ⟨bb, rfl⟩, q⟩ := z
  cases (show w = Value.bool bb from rz)
  exact ⟨.bl bb, H', I', rz, q⟩
theorem s_eqo {c f : Nat} {a b : E} {ea eb : Expr} {pos : Pos} (h1 : n.mt c f = some "__eq__") (h2 : noSet eb = true) (ha : PE X ea (rE g T C hx W a)) (hb : PE X eb (rE g T C hx W b)) : PE X (.Compare ea [.Eq] [eb] pos) (rE g T C hx W (.eqo c f a b)) := by
  by_cases hn : hx = none
  · refine PE.weak (pe_cmpR (op_own O (c := c) (f := f) hn h1) ha hb (noSet_mark h2)) fun σ H Q ⟨m, env, st, SR_, ER_, h⟩ => ?_
    refine go_E O SR_ ER_ h.2 fun x s1 m1 H1 v1 e1 S1 E1 r1 h1 => ?_
    refine go_E O S1 E1 (x_E O e1 h1) fun y s2 m2 H2 v2 e2 S2 E2 r2 h2 => ?_
    obtain ⟨q1, q2, q3⟩ := h2
    exact ⟨m2, s2, x, y, S2, RD.mono e2 _ _ r1, r2, q1, q2, O.MC _ _ _ _ _ _ _ (fun d s z => ⟨z.1, Wn.ext (e1.trans e2) z.2⟩) (fun _ _ z => z) q3⟩
  · exact ⟨fun pins s σ H Q I ⟨m, env, st, SR_, ER_, h⟩ => (hn h.1).elim⟩
theorem fld_get {m : Mp} {H : Hp} {st : Store} {d : D} {v : V} {f : Nat} {x : Str} {R : QE} (hf : n.fd f = some x) (S1 : SR g m H st) (r : RD g m H d v) (h : fldQ st d f R) :
    ∃ a c dx fs v' dv, v = .ref a ∧ H a = some (.ins (g.ca c) dx fs) ∧ clsOf st d = some c ∧ Cls X.K (g.ca c) ∧ NoAttr X.K (g.ca c) x ∧ fs.lookup x = some v' ∧ RD g m H dv v' ∧ R dv st := by
  unfold fldQ at h
  split at h
  · split at h
    · rename_i c fs e0
      split at h
      · rename_i d' el
        obtain ⟨a, rfl, ea⟩ := rd_ref r
        obtain ⟨dx, vs, hH, rf, okc⟩ := S1.get ea e0
        have okc2 : ∃ y, n.cl c = some y := by
          rw [O.top.okc] at okc
          exact Option.isSome_iff_exists.mp okc
        obtain ⟨y, hy⟩ := okc2
        have cl := (O.top.cl c y hy).2.cl
        have na := O.top.noat c y f x hy hf
        rw [← O.K] at cl na
        have fl : ∃ v', vs.lookup x = some v' ∧ RD g m H d' v' := rf_get O.F.nmi (by rw [O.top.nm]; exact hf) rf el
        obtain ⟨v', hl, rv⟩ := fl
        exact ⟨a, c, dx, vs, v', _, rfl, hH, by unfold clsOf; dsimp only; rw [e0], cl, na, hl, rv, h⟩
      · exact h.elim
    · exact h.elim
  · exact h.elim
theorem s_fld {f : Nat} {o : E} {eo : Expr} {x : Str} {pos : Pos} (h1 : n.fd f = some x) (h2 : dotB eo = true) (ho : PE X eo (rE g T C hx W o)) : PE X (.Attribute eo x pos) (rE g T C hx W (.fld f o)) := by
  refine PE.weak (pe_fld ho (dot_base h2)) fun σ H Q ⟨m, env, st, SR_, ER_, h⟩ => ?_
  refine go_E O SR_ ER_ h fun y s1 m1 H1 v1 e1 S1 E1 r1 z => ?_
  obtain ⟨a, c, dx, fs, v', dv, q1, q2, _, q3, q4, q5, q6, q7⟩ := fld_get O h1 S1 r1 z
  exact ⟨a, _, dx, fs, v', q1, q2, q3, q4, q5, Wn.here S1 q6 (Wn.ext e1 q7)⟩
theorem s_efld {f i : Nat} {x y : Str} {p p' : Pos} (he : S.en = some i) (h1 : S.N[i]? = some x) (h2 : n.fd f = some y) (h3 : n.xf f = true) (h4 : visB S x = true) (h5 : okN x = true) : PE X (.Attribute (.Name x p) y p') (rE g T C hx W (.efld f)) := by
  obtain ⟨c, X0, oe, pn, e1, e2, e3, e4, e5, e6, zc, fld⟩ := O.cxs i he
  have nm := O.N
  have vs := O.vis h4
  have kk := O.K
  have tp := O.top
  have nmi := O.F.nmi
  subst e6
  rw [tp.oke] at e4
  obtain ⟨z, hz⟩ := Option.isSome_iff_exists.mp e4
  obtain ⟨xf, no⟩ := tp.xf c.exc.cls z f y hz h3 h2
  rw [← kk] at xf no
  refine PE.weak (pe_xf (C := g.ca c.exc.cls) xf no zc fld (pe_var (i := i) (by rw [nm]; exact h1) vs (okN_1 h5) (okN_2 h5))) fun σ H Q ⟨m, env, st, SR_, ER_, h⟩ => ?_
  obtain ⟨s1, _, _, r3⟩ := ER_.cx c e1
  rw [e2] at s1
  subst e3
  unfold wpE at h
  split at h
  · rename_i e q
    cases q
    split at h
    · rename_i d el
      refine ⟨.ref c.ob, s1, rfl, e5, ?_⟩
      rcases r3 with ⟨r3, _⟩ | ⟨dd, fs, r4, r5, r6, _⟩
      · rw [r3] at el; cases el
      · obtain ⟨v, hl, rv⟩ := rf_get nmi (by rw [tp.nm]; exact h2) r6 el
        exact ⟨dd, fs, v, r4, r5, hl, Wn.here SR_ rv h⟩
    · exact h.elim
  · exact h.elim
theorem a_nil : PA X [] (rA g T C hx W .nil) := PA.weak pa_nil fun σ H Q ⟨m, env, st, SR_, ER_, h⟩ => h m H [] (.refl _ _) SR_ .nil
theorem a_cons {e : E} {as : A} {x : Expr} {es : List Expr} (h1 : noStar x = true) (he : PE X x (rE g T C hx W e)) (ha : PA X es (rA g T C hx W as)) : PA X (x :: es) (rA g T C hx W (.cons e as)) := by
  refine PA.weak (pa_cons he ha (star_cons h1)) fun σ H Q ⟨m, env, st, SR_, ER_, h⟩ => ?_
  refine go_E O SR_ ER_ h fun y s1 m1 H1 v1 e1 S1 E1 r1 z => ?_
  refine go_A O S1 E1 (x_A O e1 z) fun ds s2 m2 H2 vs e2 S2 E2 r2 z2 => ?_
  exact z2 m2 H2 _ (e1.trans e2) S2 (.cons (RD.mono e2 _ _ r1) r2)
theorem s_pr {p : Pr} {as : A} {a0 : Expr} {args : List Expr} {x : Str} {pp pos : Pos} (h1 : x = prN p) (h3 : gloB S x = true) (h4 : okN x = true) (h5 : noStars (a0 :: args) = true) (ha : PA X (a0 :: args) (rA g T C hx W as)) :
    PE X (.Call (.Name x pp) (a0 :: args) [] pos) (rE g T C hx W (.pr p as)) := by
  have h5 : (noStar a0 && noStars args) = true := h5
  rw [Bool.and_eq_true] at h5
  by_cases hn : hx = none
  · have cp := call_pr O.K (O.calm hn) p
    have go : ∀ {σ H Q}, rE g T C hx W (.pr p as) σ H Q → tCB (rPr g p) (rA g T C hx W as) σ H Q := fun {σ H Q} ⟨m, env, st, SR_, ER_, _, h⟩ =>
      go_A O SR_ ER_ h fun ds s1 m1 H1 vs e1 S1 E1 r1 z => ⟨m1, s1, ds, S1, r1, prQ_mono (fun d s z => Wn.ext e1 z) z⟩
    subst h1
    cases p with
    | len => exact PE.weak (pe_callB cp (O.gl h3) (O.top.blt _ (by decide)) (show bootBuiltins "len" = some (.builtin "len") by decide +kernel) ha (by decide) (by decide) (star_cons h5.1) (star_any h5.2)) fun _ _ _ => go
    | abs => exact PE.weak (pe_callB cp (O.gl h3) (O.top.blt _ (by decide)) (show bootBuiltins "abs" = some (.builtin "abs") by decide +kernel) ha (by decide) (by decide) (star_cons h5.1) (star_any h5.2)) fun _ _ _ => go
    | max2 => exact PE.weak (pe_callB cp (O.gl h3) (O.top.blt _ (by decide)) PyProof.Rows.boot_max ha (by decide) (by decide) (star_cons h5.1) (star_any h5.2)) fun _ _ _ => go
    | min2 => exact PE.weak (pe_callB cp (O.gl h3) (O.top.blt _ (by decide)) PyProof.Rows.boot_min ha (by decide) (by decide) (star_cons h5.1) (star_any h5.2)) fun _ _ _ => go
    | any => exact PE.weak (pe_callB cp (O.gl h3) (O.top.blt _ (by decide)) (show bootBuiltins "any" = some (.builtin "any") by decide +kernel) ha (by decide) (by decide) (star_cons h5.1) (star_any h5.2)) fun _ _ _ => go
    | all => exact PE.weak (pe_callB cp (O.gl h3) (O.top.blt _ (by decide)) (show bootBuiltins "all" = some (.builtin "all") by decide +kernel) ha (by decide) (by decide) (star_cons h5.1) (star_any h5.2)) fun _ _ _ => go
    | sum => exact PE.weak (pe_callB cp (O.gl h3) (O.top.blt _ (by decide)) PyProof.Rows.boot_sum ha (by decide) (by decide) (star_cons h5.1) (star_any h5.2)) fun _ _ _ => go
    | max => exact PE.weak (pe_callB cp (O.gl h3) (O.top.blt _ (by decide)) PyProof.Rows.boot_max ha (by decide) (by decide) (star_cons h5.1) (star_any h5.2)) fun _ _ _ => go
    | min => exact PE.weak (pe_callB cp (O.gl h3) (O.top.blt _ (by decide)) PyProof.Rows.boot_min ha (by decide) (by decide) (star_cons h5.1) (star_any h5.2)) fun _ _ _ => go
    | int => exact PE.weak (pe_callTy cp (O.gl h3) (O.top.blt _ (by decide)) PyProof.Rows.boot_int ha (by decide) (by decide) (star_cons h5.1) (star_any h5.2)) fun _ _ _ => go
    | str => exact PE.weak (pe_callTy cp (O.gl h3) (O.top.blt _ (by decide)) PyProof.Rows.boot_str ha (by decide) (by decide) (star_cons h5.1) (star_any h5.2)) fun _ _ _ => go
    | tuple => exact PE.weak (pe_callTy cp (O.gl h3) (O.top.blt _ (by decide)) PyProof.Rows.boot_tuple ha (by decide) (by decide) (star_cons h5.1) (star_any h5.2)) fun _ _ _ => go
    | list => exact PE.weak (pe_callTy cp (O.gl h3) (O.top.blt _ (by decide)) PyProof.Rows.boot_list ha (by decide) (by decide) (star_cons h5.1) (star_any h5.2)) fun _ _ _ => go
    | bool => exact PE.weak (pe_callTy cp (O.gl h3) (O.top.blt _ (by decide)) PyProof.Rows.boot_bool ha (by decide) (by decide) (star_cons h5.1) (star_any h5.2)) fun _ _ _ => go
  · exact ⟨fun pins s σ H Q I ⟨_, _, _, _, _, h, _⟩ => absurd h hn⟩
theorem wpA_len : ∀ (as : A) (env : Env) (st : Store) (Q : List D → Store → Prop) (Xc : QX), wpA T C hx as env st Q Xc → wpA T C hx as env st (fun ds s => (∀ es, ckA n as S es = true → ds.length = es.length) ∧ Q ds s) Xc
  | .nil, env, st, Q, Xc, h => by
    refine ⟨fun es e => ?_, h⟩
    cases es with
    | nil => rfl
    | cons _ _ => cases e
  | .cons e as, env, st, Q, Xc, h => wpE_mono O.MC e env st _ _ _ _ (fun d s1 z => wpA_mono O.MC as env s1 _ _ _ _ (fun ds s2 z2 => ⟨fun es q => by
      cases es with
      | nil => cases q
      | cons x r =>
        have q : (ckE n e S x && ckA n as S r) = true := q
        rw [Bool.and_eq_true] at q
        rw [List.length_cons, List.length_cons, z2.1 r q.2], z2.2⟩) (fun _ _ z => z) (wpA_len as env s1 _ _ z)) (fun _ _ z => z) h
theorem s_tup {as : A} {es : List Expr} {k : Nat} {pos : Pos} (hc : ckA n as S es = true) (hz : es.length ≤ 1000) (ha : PA X es (rA g T C hx W as)) : PE X (.Tuple es k pos) (rE g T C hx W (.tup as)) := by
  refine PE.weak (pe_tup ha) fun σ H Q ⟨m, env, st, SR_, ER_, h⟩ => ?_
  refine go_A O SR_ ER_ (wpA_len O as env st _ _ h) fun ds s1 m1 H1 vs e1 S1 E1 r1 z => ⟨?_, fun p np => Wn.tup S1 np r1 (Wn.ext e1 z.2)⟩
  rw [r1.length, z.1 es hc]
  exact Nat.le_trans hz (by decide)
theorem s_lst {as : A} {es : List Expr} {pos : Pos} (hc : ckA n as S es = true) (hz : es.length ≤ 1000) (ha : PA X es (rA g T C hx W as)) : PE X (.List es pos) (rE g T C hx W (.lst as)) := by
  refine PE.weak (pe_lst ha) fun σ H Q ⟨m, env, st, SR_, ER_, h⟩ => ?_
  refine go_A O SR_ ER_ (wpA_len O as env st _ _ h) fun ds s1 m1 H1 vs e1 S1 E1 r1 z => ⟨?_, fun p np => Wn.newl S1 np (Wn.ext e1 z.2) r1⟩
  rw [r1.length, z.1 es hc]
  exact Nat.le_trans hz (by decide)
theorem s_rvl {a : E} {ea : Expr} {k : Nat} {p1 p2 p3 pos : Pos} (ha : PE X ea (rE g T C hx W a)) : PE X (.Subscript ea (.Slice none none (some (.UnaryOp .USub (.Constant (.int 1) k p1) p2)) p3) pos) (rE g T C hx W (.rvl a)) := by
  refine PE.weak (pe_revL ha) fun σ H Q ⟨m, env, st, SR_, ER_, h⟩ => ?_
  refine go_E O SR_ ER_ h fun y s1 m1 H1 v1 e1 S1 E1 r1 z => ?_
  rw [O.K]
  unfold rvlQ at z
  split at z
  · obtain ⟨b, rfl, eb⟩ := rd_ref r1
    split at z
    · rename_i e0
      obtain ⟨vs, h2, h3⟩ := S1.sqL eb (.inl e0)
      exact ⟨b, vs, rfl, h2, fun p np => Wn.newl S1 np (Wn.ext e1 z) h3.rev⟩
    · rename_i e0
      obtain ⟨vs, h2, h3⟩ := S1.sqL eb (.inr e0)
      exact ⟨b, vs, rfl, h2, fun p np => Wn.newl S1 np (Wn.ext e1 z) h3.rev⟩
    · exact z.elim
  · exact z.elim
theorem me_ty {m' : Me} {m : Mp} {H : Hp} {st : Store} {d : D} {v : V} (S1 : SR g m H st) (r : RD g m H d v) (h : meOk m' st d) : L2.tyV X.K (meI m').1 v H := by
  unfold meOk at h
  split at h
  · cases rd_str r
    show (meI m').1 = "str"
    cases m' <;> first | rfl | cases h
  · obtain ⟨a, rfl, ea⟩ := rd_ref r
    split at h
    · rename_i e0
      obtain ⟨vs, hq, _⟩ := S1.sqL ea (.inl e0)
      rw [← O.K] at hq
      refine .inl ⟨?_, vs, hq⟩
      cases m' <;> first | rfl | cases h
    · rename_i e0
      have q := S1.get ea e0
      refine .inr (.inr (.inl ⟨?_, ?_⟩))
      · cases m' <;> first | rfl | cases h
      · obtain ⟨ps, h1, _⟩ := q
        exact .inl ⟨ps, h1⟩
    · exact h.elim
  · exact h.elim
theorem few_of {e : Expr} {es : List Expr} {pos : Pos} (h4 : (e :: es).length < 30) (h5 : noStars (e :: es) = true) : ((backTo pos (starEach (e :: es) X.env)).all (fun x => !x.1) && (backToKw pos (keywordEach [] X.env)).all (fun x => x.1.isSome)
      && decide ((e :: es).length + ([] : List Keyword).length + (if ([] : List Keyword).isEmpty then 0 else 1) < 30)) = true := by
  rw [star_len h5]
  show (true && true && decide ((e :: es).length + 0 + 0 < 30)) = true
  rw [decide_eq_true (by omega)]
  rfl
theorem s_me {m' : Me} {o : E} {as : A} {eo : Expr} {x : Str} {apos pos : Pos} {args : List Expr} (h1 : x = (meI m').2.2) (h2 : dotB eo = true) (h3 : (apos.endLine == pos.line) = true) (h4 : args.length < 30) (h5 : noStars args = true)
    (h6 : args = [] → as = .nil) (ho : PE X eo (rE g T C hx W o)) (ha : PA X args (rA g T C hx W as)) : PE X (.Call (.Attribute eo x apos) args [] pos) (rE g T C hx W (.me m' o as)) := by
  have facts : PlainAttrs (meI m').1 ∧ Slot (meI m').1 (meI m').2.2 (meI m').2.1 ∧ typeOf (.builtin (meI m').2.1) = pure (.type "method_descriptor") := by
    cases m'
    · exact ⟨PySem.F.plainAttrs_list, PySem.F.slot_list_append, PySem.F.type_list_append⟩
    · exact ⟨PySem.F.plainAttrs_list, PySem.F.slot_list_pop, PySem.F.type_list_pop⟩
    · exact ⟨PySem.F.plainAttrs_list, PySem.F.slot_list_pop, PySem.F.type_list_pop⟩
    · exact ⟨PySem.F.plainAttrs_list, PySem.F.slot_list_insert, PySem.F.type_list_insert⟩
    · exact ⟨PySem.F.plainAttrs_list, PySem.F.slot_list_extend, PySem.F.type_list_extend⟩
    · exact ⟨PySem.F.plainAttrs_list, PySem.F.slot_list_reverse, PySem.F.type_list_reverse⟩
    · exact ⟨PySem.F.plainAttrs_list, PySem.F.slot_list_clear, PySem.F.type_list_clear⟩
    · exact ⟨PySem.F.plainAttrs_list, PySem.F.slot_list_index, PySem.F.type_list_index⟩
    · exact ⟨PySem.F.plainAttrs_dict, PySem.F.slot_dict_get, PySem.F.type_dict_get⟩
    · exact ⟨PySem.F.plainAttrs_dict, PySem.F.slot_dict_get, PySem.F.type_dict_get⟩
    · exact ⟨PySem.F.plainAttrs_dict, PySem.F.slot_dict_setdefault, PySem.F.type_dict_setdefault⟩
    · exact ⟨PySem.F.plainAttrs_str, PySem.F.slot_str_split, PySem.F.type_str_split⟩
    · exact ⟨PySem.F.plainAttrs_str, PySem.F.slot_str_join, PySem.F.type_str_join⟩
    · exact ⟨PySem.F.plainAttrs_str, PySem.F.slot_str_upper, PySem.F.type_str_upper⟩
    · exact ⟨PySem.F.plainAttrs_str, PySem.F.slot_str_index, PySem.F.type_str_index⟩
    · exact ⟨PySem.F.plainAttrs_str, PySem.F.slot_str_startswith, PySem.F.type_str_startswith⟩
    · exact ⟨PySem.F.plainAttrs_str, PySem.F.slot_str_count, PySem.F.type_str_count⟩
  obtain ⟨f1, f2, f3⟩ := facts
  subst h1
  cases args with
  | nil =>
    refine PE.weak (pe_bm0 f1 f2 f3 (mt_me (by have := O.hu; omega) O.K m') ho (dot_base h2) h3) fun σ H Q ⟨m, env, st, SR_, ER_, h⟩ => ?_
    rw [h6 rfl] at h
    exact go_E O SR_ ER_ h fun y s1 m1 H1 v1 e1 S1 E1 r1 z => ⟨me_ty O S1 r1 z.1, m1, s1, y, [], S1, r1, .nil, meQ_mono (fun d s z => Wn.ext e1 z) z.2⟩
  | cons e es =>
    have h50 := h5
    have h5 : (noStar e && noStars es) = true := h5
    rw [Bool.and_eq_true] at h5
    refine PE.weak (pe_bm f1 f2 f3 (mt_me (by have := O.hu; omega) O.K m') ho ha (dot_base h2) (few_of O h4 h50) h3 (star_cons h5.1) (star_any h5.2)) fun σ H Q ⟨m, env, st, SR_, ER_, h⟩ => ?_
    refine go_E O SR_ ER_ h fun y s1 m1 H1 v1 e1 S1 E1 r1 z => ⟨me_ty O S1 r1 z.1, ?_⟩
    exact go_A O S1 E1 (x_A O e1 z.2) fun ds s2 m2 H2 vs e2 S2 E2 r2 z2 => ⟨m2, s2, y, ds, S2, RD.mono e2 _ _ r1, r2, meQ_mono (fun d s z => Wn.ext (e1.trans e2) z) z2⟩
theorem s_idx {a b : E} {ea eb : Expr} {pos : Pos} (h1 : ixB eb = true) (ha : PE X ea (rE g T C hx W a)) (hb : PE X eb (rE g T C hx W b)) : PE X (.Subscript ea eb pos) (rE g T C hx W (.idx a b)) := by
  refine PE.weak (pe_ix (ix_any O.F O.K (by have := O.hu; omega)) ha hb (ix_plain h1)) fun σ H Q ⟨m, env, st, SR_, ER_, h⟩ => ?_
  refine go_E O SR_ ER_ h fun x s1 m1 H1 v1 e1 S1 E1 r1 h1 => ?_
  refine go_E O S1 E1 (x_E O e1 h1) fun y s2 m2 H2 v2 e2 S2 E2 r2 h2 => ?_
  exact ⟨m2, s2, x, y, S2, RD.mono e2 _ _ r1, r2, idxQ_mono (fun d s z => Wn.ext (e1.trans e2) z) h2⟩
def rO (g : G) (T : Tab) (C : Calls) (hx : Option Exc) (W : WX) (lo : E) : TO := fun σ H Q => ∃ (m : Mp) (env : Env) (st : Store), SR g m H st ∧ ER g m H σ env ∧ wpE T C hx lo env st (fun l s => partQ l fun l' => ∀ m' H', Ext m m' H H' → SR g m' H' s → Q l' H') (Wx g m H (WE W σ))
theorem o_some {lo : E} {el : Expr} (h : PE X el (rE g T C hx W lo)) : PO X (some el) (rO g T C hx W lo) := by
  refine ⟨fun pins s σ H Q I ⟨m, env, st, SR_, ER_, hw⟩ => ?_⟩
  rw [evalPart_some]
  refine thn (h.run pins s σ H (fun x H1 => (∃ i, x = .int i ∧ Q (some i) H1) ∨ (x = .non ∧ Q none H1)) I ?_) fun u s1 ⟨x, H1, I1, r1, q1⟩ => ?_
  · refine go_E O SR_ ER_ hw fun y s1 m1 H1 v1 e1 S1 E1 r1 z => ?_
    unfold partQ at z
    split at z
    · cases rd_int r1
      exact .inl ⟨_, rfl, z m1 H1 e1 S1⟩
    · cases rd_non r1
      exact .inr ⟨rfl, z m1 H1 e1 S1⟩
    · exact z.elim
  · rcases q1 with ⟨i, rfl, q⟩ | ⟨rfl, q⟩
    · obtain ⟨t, rfl⟩ := r1
      exact ⟨some i, H1, I1, .int i t, q⟩
    · cases (show u = Value.none from r1)
      exact ⟨none, H1, I1, .none, q⟩
theorem o_none : PO X none (rO g T C hx W .abs0) := by
  refine ⟨fun pins s σ H Q I ⟨m, env, st, SR_, ER_, hw⟩ => ?_⟩
  exact po_none.run pins s σ H Q I (hw m H (.refl _ _) SR_)
theorem s_sli {a lo hi : E} {ea : Expr} {el eh : Option Expr} {pos p2 : Pos} (ha : PE X ea (rE g T C hx W a)) (hl : PO X el (rO g T C hx W lo)) (hh : PO X eh (rO g T C hx W hi)) : PE X (.Subscript ea (.Slice el eh none p2) pos) (rE g T C hx W (.sli a lo hi)) := by
  refine PE.weak (pe_slice (sl_any O.K) ha hl hh) fun σ H Q ⟨m, env, st, SR_, ER_, h⟩ => ?_
  refine go_E O SR_ ER_ h fun x s1 m1 H1 v1 e1 S1 E1 r1 h1 => ?_
  refine ⟨m1, env, s1, S1, E1, wpE_mono O.MC lo env s1 _ _ _ _ (fun l s2 z => partQ_mono (fun l' z m2 H2 e2 S2 => ?_) z) (fun _ _ z => Wx.ext e1 z) h1⟩
  refine ⟨m2, env, s2, S2, E1.mono e2, wpE_mono O.MC hi env s2 _ _ _ _ (fun u s3 z => partQ_mono (fun u' z m3 H3 e3 S3 => ?_) z) (fun _ _ z => Wx.ext (e1.trans e2) z) z⟩
  exact ⟨m3, s3, x, S3, RD.mono (e2.trans e3) _ _ r1, sliQ_mono (fun d s z => Wn.ext ((e1.trans e2).trans e3) z) z⟩
inductive QD (X : Cx) (R : E → TE) : List (Option Expr) → List Expr → A → Prop where
  | nil : QD X R [] [] .nil
  | cons {k v : E} {as : A} {ek ev : Expr} {ks : List (Option Expr)} {vs : List Expr} (hk : PE X ek (R k)) (hv : PE X ev (R v)) (t : QD X R ks vs as) : QD X R (some ek :: ks) (ev :: vs) (.cons k (.cons v as))
omit O in
theorem QD.lens {X : Cx} {R : E → TE} {ks : List (Option Expr)} {vs : List Expr} {as : A} (h : QD X R ks vs as) : ks.all (·.isSome) = true ∧ ks.length = vs.length := by
  induction h with
  | nil => exact ⟨rfl, rfl⟩
  | cons _ _ _ ih => exact ⟨by rw [List.all_cons, ih.1]; rfl, by simp [ih.2]⟩
def twos : List V → List (V × V)
  | a :: b :: r => (a, b) :: twos r
  | _ => []
theorem d_run {ks : List (Option Expr)} {vs : List Expr} {as : A} {pos : Pos} (h : QD X (rE g T C hx W) ks vs as) : ∃ trs, PPs X pos ks vs trs ∧ ∀ (σ : L2.St) (H : Hp) (m : Mp) (env : Env) (st : Store) (R : List D → Store → Prop) (Q : List (V × V) → Hp → Prop), SR g m H st → ER g m H σ env →
    wpA T C hx as env st R (Wx g m H (WE W σ)) → (∀ ds s1 m1 H1 us, Ext m m1 H H1 → SR g m1 H1 s1 → RDs g m1 H1 ds us → R ds s1 → Q (twos us) H1) → tPairs trs σ H Q := by
  induction h with
  | nil => exact ⟨[], pps_nil, fun σ H m env st R Q S1 E1 z k => k [] st m H [] (.refl _ _) S1 rfl z⟩
  | @cons k v as ek ev ks vs hk hv t ih =>
    obtain ⟨trs, j, ih⟩ := ih
    refine ⟨_ :: trs, pps_cons hk hv j, fun σ H m env st R Q S1 E1 z kk => ?_⟩
    refine go_E O S1 E1 z fun d s1 m1 H1 u e1 S2 E2 r z => ?_
    refine go_E O S2 E2 (x_E O e1 z) fun d2 s2 m2 H2 u2 e2 S3 E3 r2 z => ?_
    refine ih σ H2 m2 env s2 (fun ds s => R (d :: d2 :: ds) s) (fun ps H3 => Q ((u, u2) :: ps) H3) S3 E3 (wpA_mono O.MC as env s2 _ _ _ _ (fun _ _ z => z) (fun _ _ z => Wx.ext (e1.trans e2) z) z) fun ds s3 m3 H3 us e3 S4 r3 z => ?_
    exact kk (d :: d2 :: ds) s3 m3 H3 (u :: u2 :: us) ((e1.trans e2).trans e3) S4 (.cons (RD.mono (e2.trans e3) _ _ r) (.cons (RD.mono e3 _ _ r2) r3)) z
omit O in
theorem pairs_two : ∀ {ds : List D} {ps : List (D × D)} {m : Mp} {H : Hp} {us : List V}, pairsOf ds = some ps → RDs g m H ds us → (ps.all fun p => keyD p.1) = true → ∃ kvs : List (Key × V), twos us = kvs.map (fun kv => (kV kv.1, kv.2)) ∧ kvs.length = ps.length ∧ RK g m H ps kvs
  | [], ps, m, H, us, e, r, _ => by
    cases e
    rw [show us = [] from r]
    exact ⟨[], rfl, rfl, .nil⟩
  | [_], ps, m, H, us, e, r, _ => by cases e
  | k :: v :: ds, ps, m, H, us, e, r, hk => by
    obtain ⟨q, e1, e2⟩ := Option.map_eq_some_iff.mp (show (pairsOf ds).map (fun ps => (k, v) :: ps) = some ps from e)
    subst e2
    obtain ⟨u, us, rfl, ru, r⟩ := r
    obtain ⟨w, us, rfl, rw', r⟩ := r
    rw [List.all_cons, Bool.and_eq_true] at hk
    obtain ⟨kvs, h1, h2, h3⟩ := pairs_two e1 r hk.2
    obtain ⟨kk, rfl⟩ := key_cases hk.1
    refine ⟨(kk, w) :: kvs, ?_, by simp [h2], .cons ⟨rfl, rw'⟩ h3⟩
    rw [key_flat ru]
    show (kV kk, w) :: twos us = _
    rw [h1]
    rfl
omit O in
theorem rk_merge {m : Mp} {H : Hp} : ∀ {ps : List (D × D)} {kvs : List (Key × V)} {acc : List (D × D)} {acc' : List (Key × V)}, RK g m H ps kvs → RK g m H acc acc' → RK g m H (ps.foldl (fun acc p => putK acc p.1 p.2) acc) (kvs.foldl (fun acc kv => L2.putK acc kv.1 kv.2) acc')
  | _, _, _, _, .nil, h => h
  | _, _, _, _, .cons (a := p) (b := q) hp t, h => by
    rw [List.foldl_cons, List.foldl_cons]
    refine rk_merge t ?_
    rw [hp.1]
    exact rk_put hp.2 h
theorem s_dic {as : A} {ks : List (Option Expr)} {vs : List Expr} {pos : Pos} (h : QD X (rE g T C hx W) ks vs as) (h15 : ks.length ≤ 15) : PE X (.Dict ks vs pos) (rE g T C hx W (.dic as)) := by
  have start : ∀ {H : Hp} {m : Mp} {st : Store} {p : Addr}, SR g m H st → H p = none → SR g (put m st.length p) (upd H p (.dK [])) (st ++ [.dic []]) := fun S1 np => S1.alloc (o := .dic []) np rfl ⟨[], upd_same, .nil⟩
  cases h with
  | nil =>
    refine PE.weak pe_dnewK fun σ H Q ⟨m, env, st, SR_, ER_, h⟩ p np => ?_
    have h : dispQ (st ++ [.dic []]) st.length [] (fun d s => ∀ m' H' v, Ext m m' H H' → SR g m' H' s → RD g m' H' d v → Q v H') := h
    unfold dispQ at h
    rw [List.getElem?_concat_length] at h
    have e : (st ++ [Y.O.dic []]).set st.length (.dic (mergeD [])) = st ++ [Y.O.dic []] := by
      rw [List.set_append_right _ _ (Nat.le_refl _), Nat.sub_self]
      rfl
    have h := h.2.2
    rw [e] at h
    exact h _ _ _ (ext_new np (put_mm SR_)) (start SR_ np) ⟨p, rfl, put_same⟩
  | @cons k v as ek ev ks vs hk hv t =>
    obtain ⟨trs, j, run⟩ := d_run O (pos := pos) (QD.cons hk hv t)
    have ln := (QD.cons hk hv t).lens
    refine PE.weak (pe_disp j ln.1 ln.2 (fun z => by cases z) h15) fun σ H Q ⟨m, env, st, SR_, ER_, h⟩ p np => ?_
    have e0 : Ext m (put m st.length p) H (upd H p (.dK [])) := ext_new np (put_mm SR_)
    refine run σ _ _ env _ _ _ (start SR_ np) (ER_.mono e0) (wpA_mono O.MC _ env _ _ _ _ _ (fun _ _ z => z) (fun _ _ z => Wx.ext e0 z) h) fun ds s1 m1 H1 us e1 S1 r1 z => ?_
    have mp : m1 st.length = some p := e1.mm _ _ put_same
    unfold dispQ at z
    split at z
    · rename_i ps e2 e3
      obtain ⟨q1, q2, ro⟩ := S1.get mp e3
      obtain ⟨kvs, k1, k2, k3⟩ := pairs_two e2 r1 z.1
      cases ro with
      | nil =>
        refine ⟨q2, kvs, k1, by rw [k2]; exact z.2.1, ?_⟩
        have x : Ext m1 m1 H1 (upd H1 p (.dK (mergeK [] kvs))) := ext_mut (by rw [q2]; trivial)
        exact z.2.2 m1 _ (.ref p) ((e0.trans e1).trans x) (S1.write mp e3 rfl rfl ⟨_, upd_same, RK.mono x (rk_merge k3 .nil)⟩) ⟨p, rfl, mp⟩
    · exact z.elim
inductive QF (X : Cx) (R : E → TE) : List Expr → A → Prop where
  | nil : QF X R [] .nil
  | fmt {e : E} {as : A} {x : Expr} {es : List Expr} {p : Pos} (h : PE X x (R e)) (t : QF X R es as) : QF X R (.FormattedValue x (-1) none p :: es) (.cons e as)
  | con {y : List Nat} {as : A} {k : Nat} {p : Pos} {es : List Expr} (t : QF X R es as) : QF X R (.Constant (.str ⟨y.toArray⟩) k p :: es) (.cons (.con (.str y)) as)
theorem f_run {es : List Expr} {as : A} (h : QF X (rE g T C hx W) es as) : ∃ ts, PJ X es ts ∧ ∀ (acc : List Nat) (σ : L2.St) (H : Hp) (m : Mp) (env : Env) (st : Store) (Q : VK), SR g m H st → ER g m H σ env →
    wpF T C hx as env st acc (fun y s1 => Wn g m H Q (.str y) s1) (Wx g m H (WE W σ)) → tJs ts ⟨acc.toArray⟩ σ H fun out H1 => Q (.str out) H1 := by
  induction h with
  | nil => exact ⟨[], .nil, fun acc σ H m env st Q S1 E1 z => Wn.str S1 z⟩
  | @fmt e as x es p h t ih =>
    obtain ⟨ts, j, k⟩ := ih
    refine ⟨_ :: ts, .cons (pe_fmt h) j, fun acc σ H m env st Q S1 E1 z => ?_⟩
    refine go_E O S1 E1 z fun d s1 m1 H1 v e1 S2 E2 r z => ?_
    have nxt : ∀ y : List Nat, (acc ++ y).length ≤ line → wpF T C hx as env s1 (acc ++ y) (fun y s1 => Wn g m H Q (.str y) s1) (Wx g m H (WE W σ)) → ∃ w : Str, V.str ⟨y.toArray⟩ = .str w ∧ ((⟨acc.toArray⟩ : Str) ++ w).length ≤ sizeLine ∧ tJs ts ((⟨acc.toArray⟩ : Str) ++ w) σ H1 fun out H1 => Q (.str out) H1 := fun y l z => by
      refine ⟨⟨y.toArray⟩, rfl, ?_, ?_⟩
      · rw [str_app, str_len]
        exact l
      · rw [str_app]
        exact k (acc ++ y) σ H1 m1 env s1 Q S2 E2 (wpF_mono O.MC as env s1 _ _ _ _ _ (fun y s z => Wn.ext e1 z) (fun _ _ z => Wx.ext e1 z) z)
    unfold fmtQ at z
    split at z
    · cases rd_str r
      exact .inl ⟨_, rfl, by rw [str_len]; exact z.1, nxt _ z.2.1 z.2.2⟩
    · cases rd_int r
      refine .inr ⟨_, rfl, z.1, ?_⟩
      have q := nxt _ z.2.1 z.2.2
      unfold decI at q
      rw [str_codes] at q
      exact q
    · exact z.elim
  | @con y as kk p es t ih =>
    obtain ⟨ts, j, k⟩ := ih
    refine ⟨_ :: ts, .cons pe_str j, fun acc σ H m env st Q S1 E1 z => ?_⟩
    have z : y.length ≤ line ∧ (acc ++ y).length ≤ line ∧ wpF T C hx as env st (acc ++ y) (fun y s1 => Wn g m H Q (.str y) s1) (Wx g m H (WE W σ)) := z
    refine ⟨⟨y.toArray⟩, rfl, ?_, ?_⟩
    · rw [str_app, str_len]
      exact z.2.1
    · rw [str_app]
      exact k (acc ++ y) σ H m env st Q S1 E1 z.2.2
theorem s_fstr {as : A} {x y : Expr} {r : List Expr} {pos : Pos} (h : QF X (rE g T C hx W) (x :: y :: r) as) : PE X (.JoinedStr (x :: y :: r) pos) (rE g T C hx W (.fstr as)) := by
  obtain ⟨ts, j, k⟩ := f_run O h
  exact PE.weak (pe_joined j) fun σ H Q ⟨m, env, st, SR_, ER_, h⟩ => k [] σ H m env st Q SR_ ER_ h
end
end
end Y
set_option linter.all false
set_option maxHeartbeats 4000000
set_option maxRecDepth 100000
namespace Y
open PySem PySem.Spec PyProof.Rows L2 RZ
def ItxT (K : PySem.W.Frag) (x : Str) (b : Addr) (N : Nat) : It where
  go i H := ∃ (ys : List V) (y : V) (c : Nat), SqT K H b ys ∧ ys.length = N ∧ x.cps[i]? = some c ∧ ys[i]? = some y
  yld i H v H' := ∃ T c y, v = .ref T ∧ H T = none ∧ H' = upd H T (.tup [.str ⟨#[c]⟩, y]) ∧ x.cps[i]? = some c ∧ ∀ ys, SqT K H b ys → ys[i]? = some y
  stop i H := ∃ ys : List V, SqT K H b ys ∧ ys.length = N ∧ (x.cps.size ≤ i ∨ N ≤ i)
theorem zip_sep {I b : Nat} (h : b < I) : ZipSep2 (I + 4) (I + 2) (I + 3) I (I + 1) [I] [I + 1, b] := by
  constructor <;> first
    | exact List.mem_cons_self
    | exact fun z => absurd (show (_ : Nat) = _ from z) (by omega)
    | (intro z
       rcases List.mem_cons.mp z with e | e
       · exact absurd (show (_ : Nat) = _ from e) (by omega)
       · first
         | exact absurd e List.not_mem_nil
         | exact absurd (show (_ : Nat) = _ from List.mem_singleton.mp e) (by omega))
structure TxAt (x : Str) (t : Tok) (b : Addr) (N z TI TO i1 i2 : Addr) (i : Nat) (h : Heap) : Prop where
  z : IsZip h z TI TO .none
  ti : IsTupOf2 h TI (.ref i1) (.ref i2)
  out : ∃ u v, IsTupOf2 h TO u v
  one : h.IsStrIter i1 (strIterType x) x t i
  two : h.IsTupleIter i2 b i
  l1 : i ≤ x.cps.size
  l2 : i ≤ N
theorem fpl {x z TI TO i1 i2 : Addr} (h : x ∈ [z, TI, TO, i1, i2]) : x = z ∨ x = TI ∨ x = TO ∨ x = i1 ∨ x = i2 := by simpa using h
theorem turn_xT {P : Program} {w : World} {K : PySem.W.Frag} {es : List Expr} {kk : Nat} {tpos : Pos} {x : Str} {t : Tok} {b : Addr} {N z TI TO i1 i2 : Nat} (S : ZipSep2 z TI TO i1 i2 [i1] [i2, b]) (hb : b ≠ i2) :
    Turn P w K (.Tuple es kk tpos) (ItxT K x b N) [z, TI, TO, i1, i2] z (TxAt x t b N z TI TO i1 i2) := by
  have zi1 : i1 ≠ z := S.zi1.symm
  have zi2 : i2 ≠ z := S.zi2.symm
  have Ti1 : i1 ≠ TO := S.Ti1.symm
  have Ti2 : i2 ≠ TO := S.Ti2.symm
  have i12 : i1 ≠ i2 := fun e => S.sep1_2 (by rw [e]; exact List.mem_cons_self)
  refine { mem := List.mem_cons_self, obj := fun i h st c hc => ?_, keep := fun i h h' st k => ?_, item := ?_, done := ?_, self := fun A i s Q E st h => wpAny_pyIter_zip st.z h }
  · obtain ⟨u, v, ho⟩ := st.out
    obtain ⟨o1, e1, _, d1⟩ := st.one
    obtain ⟨o2, e2, _, d2⟩ := st.two
    rcases fpl hc with rfl | rfl | rfl | rfl | rfl
    · exact ⟨_, st.z, fun v q => by cases q⟩
    · exact ⟨_, st.ti, fun v q => by cases q⟩
    · exact ⟨_, ho, fun v q => by cases q⟩
    · exact ⟨o1, e1, fun v q => by rw [d1] at q; cases q⟩
    · exact ⟨o2, e2, fun v q => by rw [d2] at q; cases q⟩
  · obtain ⟨u, v, ho⟩ := st.out
    obtain ⟨o1, e1, r1⟩ := st.one
    obtain ⟨o2, e2, r2⟩ := st.two
    exact ⟨k _ (by simp) _ st.z, k _ (by simp) _ st.ti, ⟨u, v, k _ (by simp) _ ho⟩, ⟨o1, k _ (by simp) _ e1, r1⟩, ⟨o2, k _ (by simp) _ e2, r2⟩, st.l1, st.l2⟩
  · intro X hP hw hK hc i pins s σ H E I hf st hg
    subst hP hw hK
    obtain ⟨ys, y, c, hq, hn, hx, hy⟩ := hg
    obtain ⟨u0, v0, ho⟩ := st.out
    obtain ⟨its, rv, p2, _⟩ := I.tuple hq
    obtain ⟨w2, hu2, ru2⟩ := rv.get hy
    have hh : X.A.handled = none := I.ok.hd hc
    have D1 := Draws.text (prog := X.prog) (w := X.w) (A := X.A.in1) hh i1 x t
    have D2 := Draws.tuple (prog := X.prog) (w := X.w) (A := X.A.in1) hh i2 b hb its.toArray
    have hzl : z < s.heap.objs.size := Heap.lt_size st.z
    have n1 : i < x.cps.size := by
      rcases Nat.lt_or_ge i x.cps.size with q | q
      · exact q
      · rw [Array.getElem?_eq_none q] at hx; cases hx
    have n2 : i < its.toArray.size := by
      have := (List.getElem?_eq_some_iff.mp hu2).1
      simpa using this
    refine wpAny_pyNext_zipD2_item S D1 D2 st.z st.ti ho st.one ⟨st.two, p2⟩ n1 n2 fun x1 x2 h' tk q1 q2 z' to' one' two' hT hsz hk => ?_
    obtain ⟨c', u', ec, rfl⟩ := q1
    rw [hx] at ec
    cases ec
    have e2 : x2 = w2 := by
      have q2 : its.toArray[i]? = some x2 := q2
      rw [List.getElem?_toArray, hu2] at q2
      exact (Option.some.inj q2).symm
    subst e2
    refine ⟨_, rfl, wpAny_letOwnedTupleGo_zip (s := { s with heap := h', toks := tk }) z' fun h'' z'' sb => ?_⟩
    have at2 : ∀ (a : Addr) (o : Obj), a ≠ z → h'.get? a = some o → h''.get? a = some o := fun a o ne e => (sb.2 a ne).trans e
    have T2 := at2 _ _ (Nat.ne_of_gt hzl) hT
    have mk : ObjOk X.prog X.w (upd H s.heap.objs.size (.tup [.str ⟨#[c]⟩, y])) h'' s.heap.objs.size (.tup [.str ⟨#[c]⟩, y]) := by
      refine ⟨?_, [.str ⟨#[c]⟩ u', x2], .cons ⟨u', rfl⟩ (.cons ru2 .nil), ⟨_, T2, rfl, _, rfl⟩⟩
      show 2 ≤ sizeLine
      decide
    have far : ∀ a (o : Obj), a ∉ [z, TI, TO, i1, i2] → s.heap.get? a = some o → h''.get? a = some o := fun a o na e => by
      simp only [List.mem_cons, List.not_mem_nil, or_false, not_or] at na
      exact at2 a o na.1 (hk a o na.1 na.2.2.1 na.2.2.2.1 na.2.2.2.2 e)
    have I1 : Inv X pins σ (upd H s.heap.objs.size (.tup [.str ⟨#[c]⟩, y])) { s with heap := h'', toks := tk } := I.turnedNew (t' := tk) (ch := [z, TI, TO, i1, i2]) far hf (Nat.le_refl _) mk
    obtain ⟨oa, a1, a2⟩ := one'
    obtain ⟨ob, b1, b2⟩ := two'.1
    refine ⟨.ref s.heap.objs.size, _, I1, rfl, ⟨_, c, y, rfl, I.hok.fresh (Nat.le_refl _), rfl, hx, fun l hl => ?_⟩, ⟨z'', ?_, ⟨_, _, at2 _ _ S.TOz to'⟩, ⟨oa, at2 _ _ zi1 a1, a2⟩, ⟨ob, at2 _ _ zi2 b1, b2⟩, n1, ?_⟩, fun a ha => ?_⟩
    · rw [I.tuple_inj hl hq]
      exact hy
    · exact at2 _ _ S.TIz (hk _ _ S.TIz S.TITO S.TIi1 S.TIi2 st.ti)
    · have := rv.length
      simp at n2
      omega
    · have lt : a < s.heap.objs.size := by
        obtain ⟨o1, e1, _⟩ := st.one
        obtain ⟨o2, e2, _⟩ := st.two
        rcases fpl ha with rfl | rfl | rfl | rfl | rfl
        · exact hzl
        · exact Heap.lt_size st.ti
        · exact Heap.lt_size ho
        · exact Heap.lt_size e1
        · exact Heap.lt_size e2
      rw [upd_ne (Nat.ne_of_lt lt)]
      exact (hf a ha).1
  · intro X hP hw hK hc i pins s σ H E I hf st hg
    subst hP hw hK
    obtain ⟨ys, hq, hn, hend⟩ := hg
    obtain ⟨u0, v0, ho⟩ := st.out
    obtain ⟨its, rv, p2, _⟩ := I.tuple hq
    have hh : X.A.handled = none := I.ok.hd hc
    have len := rv.length
    have l1 := st.l1
    have l2 := st.l2
    refine wpAny_pyNext_zipD2_end S (Draws.text (prog := X.prog) (w := X.w) (A := X.A.in1) hh i1 x t) (Draws.tuple (prog := X.prog) (w := X.w) (A := X.A.in1) hh i2 b hb its.toArray) st.z st.ti ho st.one ⟨st.two, p2⟩ l1 (by simp; omega) (by simp; omega) fun h' tk hk => ⟨rfl, ?_⟩
    refine I.turnedL (t' := tk) (ch := [z, TI, TO, i1, i2]) (fun a o na e => ?_) hf
    simp only [List.mem_cons, List.not_mem_nil, or_false, not_or] at na
    exact hk a o na.1 na.2.2.1 na.2.2.2.1 na.2.2.2.2 e
def iZipX (K : PySem.W.Frag) (ta : TA) : TI := fun σ H R => ta σ H fun vs H1 => (∃ a b xs ys, vs = [.ref a, .ref b] ∧ ((SqL K H1 a xs ∧ SqL K H1 b ys ∧ R (Itz K a b) H1) ∨ (SqT K H1 a xs ∧ SqT K H1 b ys ∧ R (ItzT K a b) H1))) ∨
  ∃ x b ys, vs = [.str x, .ref b] ∧ SqT K H1 b ys ∧ R (ItxT K x b ys.length) H1
theorem pi_zipX {X : Cx} {e e2 : Expr} {ta : TA} {p pos tpos : Pos} {es : List Expr} {kk : Nat} (hg : Gl X "zip") (hm : X.mg "zip" = none) (ha : PA X [e, e2] ta) (hs : starEach [e, e2] X.env = (false, eval e X.env) :: starEach [e2] X.env)
    (hpl : (backTo pos (starEach [e2] X.env)).any (·.1) = false) : PI X (.Tuple es kk tpos) (.Call (.Name "zip" p) [e, e2] [] pos) (iZipX X.K ta) := by
  refine ⟨fun pins s σ H R I h => Call_ (ld_blt I hg hm PyProof.Rows.boot_zip (PyProof.Rows.callWith_type1 (thn (ha.run pos pins s σ H _ I h) fun us s1 ⟨vs, H1, I1, r1, q1⟩ => ?_) hs hpl))⟩
  have fresh : ∀ c, c ∈ [s1.heap.objs.size + 4, s1.heap.objs.size + 2, s1.heap.objs.size + 3, s1.heap.objs.size, s1.heap.objs.size + 1] → FpOk X pins H1 c := fun c hc => by
    have le : s1.heap.objs.size ≤ c := by
      rcases fpl hc with q | q | q | q | q <;> exact (show (_ : Nat) = _ from q) ▸ (by omega)
    exact I1.fpOk le (I1.hok.fresh le)
  rcases q1 with ⟨a, b, xs, ys, rfl, q⟩ | ⟨x, b, ys, rfl, hq, q⟩
  · obtain ⟨u, v, rfl, ru, rv⟩ : ∃ u v, us = [u, v] ∧ RelV (.ref a) u ∧ RelV (.ref b) v := by
      cases r1 with
      | cons r rr => cases rr with
        | cons r' rr => cases rr; exact ⟨_, _, rfl, r, r'⟩
    cases ru
    cases rv
    rcases q with ⟨h1, h2, q⟩ | ⟨h1, h2, q⟩
    · obtain ⟨i1, _, p1, _⟩ := I1.list h1
      obtain ⟨i2, _, p2, _⟩ := I1.list h2
      refine zip_begins2 (begins_list a i1.toArray) (begins_list b i2.toArray) p1.isList p2.isList fun h' k1 k2 k3 k4 k5 k6 kk => wpAny_pyIter_zip k1 ?_
      exact ⟨_, _, _, _, H1, rfl, I1.kept (t' := s1.toks) kk, turn_zip (PySem.W.ktu_apart _ a b p1.lt p2.lt), ⟨k1, k2, ⟨_, _, k3⟩, ⟨_, k4, rfl, rfl⟩, ⟨_, k5, rfl, rfl⟩⟩, fresh, q⟩
    · obtain ⟨i1, _, p1, _⟩ := I1.tuple h1
      obtain ⟨i2, _, p2, _⟩ := I1.tuple h2
      obtain ⟨o1, g1, _⟩ := id p1
      obtain ⟨o2, g2, _⟩ := id p2
      refine zip_begins2 (begins_tuple a i1.toArray) (begins_tuple b i2.toArray) p1 p2 fun h' k1 k2 k3 k4 k5 k6 kk => wpAny_pyIter_zip k1 ?_
      exact ⟨_, _, _, _, H1, rfl, I1.kept (t' := s1.toks) kk, turn_zipT (PySem.W.ktu_apart _ a b (Heap.lt_size g1) (Heap.lt_size g2)), ⟨k1, k2, ⟨_, _, k3⟩, ⟨_, k4, rfl, rfl⟩, ⟨_, k5, rfl, rfl⟩⟩, fresh, q⟩
  · obtain ⟨u, v, rfl, ru, rv⟩ : ∃ u v, us = [u, v] ∧ RelV (.str x) u ∧ RelV (.ref b) v := by
      cases r1 with
      | cons r rr => cases rr with
        | cons r' rr => cases rr; exact ⟨_, _, rfl, r, r'⟩
    obtain ⟨t, rfl⟩ := ru
    cases rv
    obtain ⟨i2, _, p2, _⟩ := I1.tuple hq
    obtain ⟨o2, g2, _⟩ := id p2
    have lt := Heap.lt_size g2
    refine zip_begins2 (begins_text x t) (begins_tuple b i2.toArray) trivial p2 fun h' k1 k2 k3 k4 k5 k6 kk => wpAny_pyIter_zip k1 ?_
    exact ⟨_, _, _, _, H1, rfl, I1.kept (t' := s1.toks) kk, turn_xT (t := t) (zip_sep lt) (Nat.ne_of_lt (Nat.lt_succ_of_lt lt)), ⟨k1, k2, ⟨_, _, k3⟩, ⟨_, k4, rfl, rfl⟩, ⟨_, k5, rfl, rfl⟩, Nat.zero_le _, Nat.zero_le _⟩, fresh, q⟩
end Y
set_option linter.all false
set_option maxHeartbeats 4000000
set_option maxRecDepth 100000
namespace Y
open PySem PySem.Spec PyProof.Rows L2 RZ
def tyVv (g : G) : Ty → V
  | .int => .ty "int" | .str => .ty "str" | .bool => .ty "bool" | .tuple => .ty "tuple" | .list => .ty "list" | .dict => .ty "dict"
  | .own c => .ref (g.ca c)
theorem clsV_of (g : G) (t : Ty) : ClsV (tyVv g t) (tyV1 g t) := by
  cases t <;> first | exact .ty _ | exact .own _
theorem clsVs_of (g : G) : ∀ ts : List Ty, Paired ClsV (ts.map (tyVv g)) (ts.map (tyV1 g))
  | [] => .nil
  | t :: ts => .cons (clsV_of g t) (clsVs_of g ts)
def tySs : Option Ty → String
  | some .int => "int" | some .str => "str" | some .bool => "bool" | some .tuple => "tuple" | some .list => "list" | some .dict => "dict"
  | _ => "NoneType"
def isTyB : Option Ty → Ty → Bool
  | none, _ => false
  | some .bool, t => decide (t = .bool) || decide (t = .int)
  | some a, t => decide (a = t)
theorem kit_bb (K : PySem.W.Frag) (T : Tab) (g : G) (a : Option Ty) (t : Ty) (ha : ∀ c, a ≠ some (.own c)) (ht : ∀ c, t ≠ .own c) : PySem.W.kitOne K (.type (tySs a)) (tyV1 g t) = some (isTy T a t) := by
  have k : kitB (tySs a) (tySs (some t)) = some (isTyB a t) := by
    cases a with
    | none => cases t <;> first | decide +kernel | exact absurd rfl (ht _)
    | some a => cases a <;> first
      | exact absurd rfl (ha _)
      | (cases t <;> first | decide +kernel | exact absurd rfl (ht _))
  have e : isTy T a t = isTyB a t := by
    cases a with
    | none => rfl
    | some a => cases a <;> first
      | exact absurd rfl (ha _)
      | rfl
  have v : tyV1 g t = .type (tySs (some t)) := by
    cases t <;> first | rfl | exact absurd rfl (ht _)
  rw [e, v]
  exact kit_ty k
section
variable {g : G} {T : Tab} {n : Nm} {C : Calls} {L : Nat} {hx : Option Exc} {W : WX} {S : Sta} {X : Cx}
section
variable (O : CxOk g T n C L hx W S X)
include O
def okTy (n : Nm) (t : Ty) : Prop := ∀ c, t = .own c → (n.cl c).isSome = true
theorem kit_b (a : Option Ty) (t : Ty) (ha : ∀ c, a ≠ some (.own c)) (ht : okTy n t) : PySem.W.kitOne X.K (.type (tySs a)) (tyV1 g t) = some (isTy T a t) := by
  by_cases z : ∃ c, t = .own c
  · obtain ⟨c, rfl⟩ := z
    obtain ⟨y, hy⟩ := Option.isSome_iff_exists.mp (ht c rfl)
    have mem : tySs a ∈ ["NoneType", "bool", "int", "str", "tuple", "list", "dict"] := by
      cases a with
      | none => decide
      | some a => cases a <;> first | decide | exact absurd rfl (ha _)
    have q := O.top.kit2 c y (tySs a) hy mem
    rw [O.K]
    refine q.trans ?_
    cases a with
    | none => rfl
    | some a => cases a <;> first | rfl | exact absurd rfl (ha _)
  · exact kit_bb X.K T g a t ha fun c e => z ⟨c, e⟩
theorem ty_val {m : Mp} {H : Hp} {st : Store} {d : D} {v : V} (S1 : SR g m H st) (r : RD g m H d v) (h : hasTy st d = true) : ∃ t, TyX X.K H v t ∧ ∀ ty, okTy n ty → PySem.W.kitOne X.K t (tyV1 g ty) = some (isTy T (tyOf st d) ty) := by
  cases d with
  | non => cases rd_non r; exact ⟨_, .base .non, fun ty h => kit_b O none ty (fun c e => nomatch e) h⟩
  | bl b => cases rd_bl r; exact ⟨_, .base (.bl b), fun ty h => kit_b O (some .bool) ty (fun c e => nomatch e) h⟩
  | int i => cases rd_int r; exact ⟨_, .base (.int i), fun ty h => kit_b O (some .int) ty (fun c e => nomatch e) h⟩
  | str x => cases rd_str r; exact ⟨_, .base (.str _), fun ty h => kit_b O (some .str) ty (fun c e => nomatch e) h⟩
  | tup ds =>
    obtain ⟨a, vs, rfl, hq, _⟩ := rd_tup r
    refine ⟨.type "tuple", ?_, fun ty h => kit_b O (some .tuple) ty (fun c e => nomatch e) h⟩
    rw [← O.K] at hq
    rcases hq with (e | ⟨o, e⟩) | e
    · exact .base (.tup e)
    · exact .fTuple e
    · obtain ⟨o, its, _, hk, hc, _⟩ := e
      exact .kTuple hk hc
  | kon k => cases h
  | ref h' =>
    obtain ⟨a, rfl, ea⟩ := rd_ref r
    cases e0 : st[h']? with
    | none =>
      have h : (st[h']?).isSome = true := h
      rw [e0] at h
      cases h
    | some o =>
      have ro := S1.get ea e0
      have ty0 : tyOf st (.ref h') = (match o with
        | .lst _ => some Ty.list
        | .fro _ => some Ty.list
        | .dic _ => some Ty.dict
        | .ins c _ => some (Ty.own c)) := by
        unfold tyOf
        simp only [e0]
        cases o <;> rfl
      rw [ty0]
      cases o with
      | lst ds =>
        obtain ⟨vs, e, _⟩ := ro
        exact ⟨_, .base (.lst e), fun ty h => kit_b O (some .list) ty (fun c e => nomatch e) h⟩
      | fro ds =>
        obtain ⟨vs, e, _⟩ := ro
        refine ⟨.type "list", ?_, fun ty h => kit_b O (some .list) ty (fun c e => nomatch e) h⟩
        rcases e with ⟨o, e⟩ | ⟨o, its, _, hk, hc, _⟩
        · exact .base (.frz e)
        · exact .kList (by rw [O.K]; exact hk) hc
      | dic kvs =>
        refine ⟨.type "dict", ?_, fun ty h => kit_b O (some .dict) ty (fun c e => nomatch e) h⟩
        obtain ⟨ps, e, _⟩ := ro
        exact .base (.dK e)
      | ins c fs =>
        obtain ⟨dx, vs, e, _, okc⟩ := ro
        rw [O.top.okc] at okc
        obtain ⟨y, hy⟩ := Option.isSome_iff_exists.mp okc
        have ca := (O.top.cl c y hy).2
        rw [← O.K] at ca
        refine ⟨.ref (g.ca c), .base (.ins e ca.cl ca.ha ca.hn ca.htk ca.hm), fun ty h => ?_⟩
        rw [O.K]
        exact O.top.kit c y ty hy h
theorem kits {t : Value} {a : Option Ty} (h : ∀ ty, okTy n ty → PySem.W.kitOne X.K t (tyV1 g ty) = some (isTy T a ty)) : ∀ ts : List Ty, (∀ t ∈ ts, okTy n t) → PySem.W.kitAny X.K t (ts.map (tyV1 g)) = some (ts.any fun ty => isTy T a ty)
  | [], _ => rfl
  | ty :: ts, k => by
    refine kitAny_cons (h ty (k ty List.mem_cons_self)) (b := isTy T a ty) (fun e => ?_) fun e => ?_
    · rw [List.any_cons, e, Bool.false_or]
      exact kits h ts fun t m => k t (List.mem_cons_of_mem _ m)
    · rw [List.any_cons, e, Bool.true_or]
theorem ckTy_ok {t : Ty} {e : Expr} (h : ckTy n S t e = true) : okTy n t ∧ noStar e = true ∧ PE X e (tC (tyVv g t)) := by
  unfold ckTy at h
  split at h
  · rename_i x p
    rw [Bool.and_eq_true, Bool.and_eq_true] at h
    obtain ⟨⟨h1, h2⟩, h3⟩ := h
    refine ⟨?_, rfl, ?_⟩
    · intro c e
      subst e
      have h3 : decide (n.cl c = some x) = true := h3
      rw [of_decide_eq_true h3]
      rfl
    · cases t with
      | own c => exact pe_glob (O.gl h1) (O.top.cl c x (of_decide_eq_true h3)).1 rfl (okN_1 h2)
      | int => cases (of_decide_eq_true h3 : tyN .int = some x); exact pe_bltn (O.gl h1) (O.top.blt _ (by decide)) PyProof.Rows.boot_int rfl
      | str => cases (of_decide_eq_true h3 : tyN .str = some x); exact pe_bltn (O.gl h1) (O.top.blt _ (by decide)) PyProof.Rows.boot_str rfl
      | bool => cases (of_decide_eq_true h3 : tyN .bool = some x); exact pe_bltn (O.gl h1) (O.top.blt _ (by decide)) PyProof.Rows.boot_bool rfl
      | tuple => cases (of_decide_eq_true h3 : tyN .tuple = some x); exact pe_bltn (O.gl h1) (O.top.blt _ (by decide)) PyProof.Rows.boot_tuple rfl
      | list => cases (of_decide_eq_true h3 : tyN .list = some x); exact pe_bltn (O.gl h1) (O.top.blt _ (by decide)) PyProof.Rows.boot_list rfl
      | dict => cases (of_decide_eq_true h3 : tyN .dict = some x); exact pe_bltn (O.gl h1) (O.top.blt _ (by decide)) PyProof.Rows.boot_dict rfl
  · cases h
theorem ckTys_ok : ∀ {ts : List Ty} {cs : List Expr}, cs.length = ts.length → ((ts.zip cs).all fun p => ckTy n S p.1 p.2) = true → (∀ t ∈ ts, okTy n t) ∧ noStars cs = true ∧ PA X cs (fun σ H Q => Q (ts.map (tyVv g)) H)
  | [], [], _, _ => ⟨(fun t m => absurd m (by simp)), rfl, PA.weak pa_nil fun _ _ _ h => h⟩
  | t :: ts, c :: cs, l, h => by
    rw [List.zip_cons_cons, List.all_cons, Bool.and_eq_true] at h
    obtain ⟨o1, s1, p1⟩ := ckTy_ok O h.1
    obtain ⟨o2, s2, p2⟩ := ckTys_ok (Nat.succ.inj l) h.2
    refine ⟨fun x m => ?_, ?_, PA.weak (pa_cons p1 p2 (star_cons s1)) fun _ _ _ h => h⟩
    · cases m with
      | head => exact o1
      | tail _ m => exact o2 x m
    · show (noStar c && noStars cs) = true
      rw [s1, s2]
      rfl
theorem boot_isi : bootBuiltins "isinstance" = some (.builtin "isinstance") := by decide +kernel
theorem s_isi1 {a : E} {t : Ty} {ea ec : Expr} {x : Str} {p pos : Pos} (h1 : x = "isinstance") (h2 : gloB S x = true) (h3 : noStar ea = true) (h4 : ckTy n S t ec = true) (ha : PE X ea (rE g T C hx W a)) :
    PE X (.Call (.Name x p) [ea, ec] [] pos) (rE g T C hx W (.isi a [t])) := by
  subst h1
  obtain ⟨o1, s1, p1⟩ := ckTy_ok O h4
  refine PE.weak (pe_callB call_isi (O.gl h2) (O.top.blt _ (by decide)) (boot_isi O) (pa_cons ha (pa_cons p1 pa_nil (star_cons s1)) (star_cons h3)) (by decide) (by decide) (star_cons h3) (star_any (show (noStar ec && true) = true by rw [s1]; rfl))) fun σ H Q ⟨m, env, st, SR_, ER_, h⟩ => ?_
  refine go_E O SR_ ER_ h fun y s1 m1 H1 v1 e1 S1 E1 r1 z => ?_
  obtain ⟨tv, ty, k⟩ := ty_val O S1 r1 z.1
  refine ⟨v1, _, tv, _, _, rfl, clsV_of g t, ty, k t o1, ?_⟩
  have z2 := z.2
  rw [List.any_cons, List.any_nil, Bool.or_false] at z2
  exact Wn.bl S1 (Wn.ext e1 z2)
theorem s_isiT {a : E} {ts : List Ty} {ea : Expr} {cs : List Expr} {k : Nat} {x : Str} {p pos p2 : Pos} (h1 : x = "isinstance") (h2 : gloB S x = true) (h3 : noStar ea = true) (h4 : cs.length = ts.length) (h5 : ((ts.zip cs).all fun p => ckTy n S p.1 p.2) = true) (h6 : ts.length ≤ 1000)
    (ha : PE X ea (rE g T C hx W a)) : PE X (.Call (.Name x p) [ea, .Tuple cs k p2] [] pos) (rE g T C hx W (.isi a ts)) := by
  subst h1
  obtain ⟨o1, s1, p1⟩ := ckTys_ok O h4 h5
  refine PE.weak (pe_callB call_isiT (O.gl h2) (O.top.blt _ (by decide)) (boot_isi O) (pa_cons ha (pa_cons (pe_tup p1) pa_nil (star_cons rfl)) (star_cons h3)) (by decide) (by decide) (star_cons h3) (star_any rfl)) fun σ H Q ⟨m, env, st, SR_, ER_, h⟩ => ?_
  refine go_E O SR_ ER_ h fun y s1 m1 H1 v1 e1 S1 E1 r1 z => ⟨?_, fun p np => ?_⟩
  · rw [List.length_map]
    exact Nat.le_trans h6 (by decide)
  · have e2 : Ext m1 m1 H1 (upd H1 p (.tup (ts.map (tyVv g)))) := ext_new np fun _ _ z => z
    have S2 := S1.fresh (u := .tup (ts.map (tyVv g))) np
    obtain ⟨tv, ty, k⟩ := ty_val O S2 (RD.mono e2 _ _ r1) z.1
    exact ⟨v1, p, ts.map (tyVv g), tv, ts.map (tyV1 g), _, rfl, upd_same, clsVs_of g ts, ty, kits O k ts o1, Wn.bl S2 (Wn.ext (e1.trans e2) z.2)⟩
def xtV (g : G) : Option Nat → V
  | none => .ty "ValueError"
  | some c => .ref (g.ca c)
def xtV1 (g : G) : Option Nat → Value
  | none => .type "ValueError"
  | some c => .ref (g.ca c)
omit O in
theorem clsX_of (o : Option Nat) : ClsV (xtV g o) (xtV1 g o) := by
  cases o with
  | none => exact .ty _
  | some c => exact .own _
omit O in
theorem clsXs_of : ∀ os : List (Option Nat), Paired ClsV (os.map (xtV g)) (os.map (xtV1 g))
  | [] => .nil
  | o :: os => .cons (clsX_of o) (clsXs_of os)
omit O in
theorem boot_ve : bootBuiltins "ValueError" = some (.type "ValueError") := by decide +kernel
def okX (n : Nm) (o : Option Nat) : Prop := ∀ c, o = some c → (n.ex c).isSome = true
theorem ckXt_ok {o : Option Nat} {e : Expr} (h : ckXt n S o e = true) : okX n o ∧ noStar e = true ∧ PE X e (tC (xtV g o)) := by
  unfold ckXt at h
  split at h
  · rename_i x p
    rw [Bool.and_eq_true, Bool.and_eq_true] at h
    obtain ⟨⟨h1, h2⟩, h3⟩ := h
    refine ⟨?_, rfl, ?_⟩
    · intro c e
      subst e
      have h3 : decide (n.ex c = some x) = true := h3
      rw [of_decide_eq_true h3]
      rfl
    · cases o with
      | some c => exact pe_glob (O.gl h1) (O.top.exg c x (of_decide_eq_true h3)) rfl (okN_1 h2)
      | none => cases (of_decide_eq_true h3 : x = "ValueError"); exact pe_bltn (O.gl h1) (O.top.blt _ (by decide)) boot_ve rfl
  · cases h
theorem ckXts_ok : ∀ {os : List (Option Nat)} {cs : List Expr}, cs.length = os.length → ((os.zip cs).all fun p => ckXt n S p.1 p.2) = true → (∀ o ∈ os, okX n o) ∧ noStars cs = true ∧ PA X cs (fun σ H Q => Q (os.map (xtV g)) H)
  | [], [], _, _ => ⟨(fun t m => absurd m (by simp)), rfl, PA.weak pa_nil fun _ _ _ h => h⟩
  | t :: ts, c :: cs, l, h => by
    rw [List.zip_cons_cons, List.all_cons, Bool.and_eq_true] at h
    obtain ⟨o1, s1, p1⟩ := ckXt_ok O h.1
    obtain ⟨o2, s2, p2⟩ := ckXts_ok (Nat.succ.inj l) h.2
    refine ⟨fun x m => ?_, ?_, PA.weak (pa_cons p1 p2 (star_cons s1)) fun _ _ _ h => h⟩
    · cases m with
      | head => exact o1
      | tail _ m => exact o2 x m
    · show (noStar c && noStars cs) = true
      rw [s1, s2]
      rfl
def rIsET (K : PySem.W.Frag) (D a : Addr) : List V → Hp → VK → Prop := fun xs H Q => ∃ (tp : Addr) (cs : List V) (us : List Value) (b : Bool), xs = [.ref a, .ref tp] ∧ H tp = some (.tup cs) ∧ Paired ClsV cs us ∧ PySem.W.kitAny K (.ref D) us = some b ∧ Q (.bl b) H
omit O in
theorem call_isET {X : Cx} {a D : Addr} {oe : Obj} {pn : List (Addr × Obj)} (C : ExcC X.K D) (hz : Zc (.ref D) none oe) (hf : ∃ vs, oe.data = .fields vs) : CallR (X.suite a ((a, oe) :: pn)) (.builtin "isinstance") (rIsET X.K D a) := by
  intro pins s σ H xs us Q I r h
  obtain ⟨tp, cs, ws, b, rfl, hT, k, e, q⟩ := h
  obtain ⟨u1, u2, rfl, r1, r2⟩ := vals2 r
  cases (show u1 = Value.ref a from r1)
  cases (show u2 = Value.ref tp from r2)
  obtain ⟨hget, _⟩ := I.pin (a, oe) (List.mem_append.mpr (.inl List.mem_cons_self))
  obtain ⟨vs, hv⟩ := hf
  have J : PySem.W.InstAt s.heap a oe D none := by
    obtain ⟨oc, od, oda, osl⟩ := oe
    obtain ⟨h1, h2⟩ := hz
    dsimp only at h1 h2 hv
    subst h1 h2 hv
    exact ⟨hget, rfl, rfl, trivial⟩
  obtain ⟨_, its, rv, o, h1, h2, n, h3⟩ := (show ObjOk _ _ H s.heap tp (.tup cs) from I.hok tp _ hT)
  have e3 := ClsV.all k rv
  subst e3
  obtain ⟨oc, od, dt, sl⟩ := o
  simp only at h2 h3
  subst h2 h3
  exact PySem.W.kia_tup (PySem.W.handS_kitx_exc C.hg C.hk C.hs C.hd C.ha C.hn C.ht C.hm) I.kIn J h1 e (fun z => nomatch z) fun tk => ⟨.bl b, H, I.tok tk, rfl, q⟩
theorem ei_at {i : Nat} (he : S.en = some i) (hi : n.ei = true) : ∃ (c : Cau) (X0 : Cx) (oe : Obj) (pn : List (Addr × Obj)), g.cx = some c ∧ hx = some c.exc ∧ c.slot = i ∧ X = X0.suite c.ob ((c.ob, oe) :: pn) ∧ Zc (.ref (g.ca c.exc.cls)) c.dx oe ∧ (∃ vs, oe.data = .fields vs) ∧ ExcC X0.K (g.ca c.exc.cls) ∧ ∀ o, okX n o → PySem.W.kitOne X0.K (.ref (g.ca c.exc.cls)) (xtV1 g o) = some (eiB T c.exc.cls o) := by
  obtain ⟨c, X0, oe, pn, e1, e2, e3, e4, e5, e6, zc, fld⟩ := O.cxs i he
  have kk := O.K
  have tp := O.top
  rw [tp.oke] at e4
  obtain ⟨z, hz⟩ := Option.isSome_iff_exists.mp e4
  obtain ⟨xc, kv, kd⟩ := tp.xk hi c.exc.cls z hz
  rw [e5] at zc
  subst e6
  have kk : X0.K = g.K := kk
  refine ⟨c, X0, oe, pn, e1, e3, e2, rfl, zc, fld, by rw [kk]; exact xc, fun o ho => ?_⟩
  rw [kk]
  cases o with
  | none => exact kv
  | some d =>
    obtain ⟨y, hy⟩ := Option.isSome_iff_exists.mp (ho d rfl)
    exact kd d y hy
omit O in
theorem pe_noX {e : Expr} : PE X e (fun _ _ _ => False) := ⟨fun _ _ _ _ _ _ h => h.elim⟩
omit O in
theorem ei_wp {cs : List (Option Nat)} {env : Env} {st : Store} {Q : QE} {E : QX} {e : Exc} (h : wpE T C (some e) (.eisi cs) env st Q E) : e.fs = [] ∧ Q (.bl (cs.any (eiB T e.cls))) st := by
  unfold wpE at h
  dsimp only at h
  split at h
  · rename_i q
    exact ⟨q, h⟩
  · exact h.elim
theorem s_eisi1 {i : Nat} {o : Option Nat} {ec : Expr} {x y : Str} {p p' pos : Pos} (he : S.en = some i) (h1 : x = "isinstance") (h2 : gloB S x = true) (hi : n.ei = true) (hN : S.N[i]? = some y) (h4 : visB S y = true) (h5 : okN y = true) (h6 : ckXt n S o ec = true) :
    PE X (.Call (.Name x p) [.Name y p', ec] [] pos) (rE g T C hx W (.eisi [o])) := by
  subst h1
  obtain ⟨q1, s1, p1⟩ := ckXt_ok O h6
  obtain ⟨c, X0, oe, pn, e1, e2, e3, e6, zc, fld, xc, kit⟩ := ei_at O he hi
  have nm := O.N
  have vs := O.vis h4
  have gl := O.gl h2
  have bl := O.top.blt "isinstance" (by decide)
  have bi := boot_isi O
  cases hd : c.dx with
  | some dd =>
    refine PE.weak pe_noX fun σ H Q ⟨m, env, st, SR_, ER_, h⟩ => ?_
    rw [e2] at h
    obtain ⟨f0, _⟩ := ei_wp h
    obtain ⟨_, _, _, r3⟩ := ER_.cx c e1
    rcases r3 with ⟨_, r3⟩ | ⟨_, _, _, _, _, r3⟩
    · rw [hd] at r3; cases r3
    · exact r3 f0
  | none =>
    rw [hd] at zc
    subst e6
    refine PE.weak (pe_callB (call_isE xc zc fld) gl bl bi (pa_cons (pe_var (i := i) (by rw [nm]; exact hN) vs (okN_1 h5) (okN_2 h5)) (pa_cons p1 pa_nil (star_cons s1)) (star_cons rfl)) (by decide) (by decide) (star_cons rfl) (star_any (show (noStar ec && true) = true by rw [s1]; rfl))) fun σ H Q ⟨m, env, st, SR_, ER_, h⟩ => ?_
    rw [e2] at h
    obtain ⟨_, hq⟩ := ei_wp h
    obtain ⟨s2, _⟩ := ER_.cx c e1
    rw [e3] at s2
    rw [List.any_cons, List.any_nil, Bool.or_false] at hq
    exact ⟨_, s2, _, _, _, rfl, fun u r => (clsX_of o).eq r, kit o q1, Wn.bl SR_ hq⟩
omit O in
theorem kitsX {K : PySem.W.Frag} {D : Value} {c : Nat} (h : ∀ o, okX n o → PySem.W.kitOne K D (xtV1 g o) = some (eiB T c o)) : ∀ os : List (Option Nat), (∀ o ∈ os, okX n o) → PySem.W.kitAny K D (os.map (xtV1 g)) = some (os.any (eiB T c))
  | [], _ => rfl
  | o :: os, k => by
    refine kitAny_cons (h o (k o List.mem_cons_self)) (b := eiB T c o) (fun e => ?_) fun e => ?_
    · rw [List.any_cons, e, Bool.false_or]
      exact kitsX h os fun t m => k t (List.mem_cons_of_mem _ m)
    · rw [List.any_cons, e, Bool.true_or]
theorem s_eisiT {i : Nat} {os : List (Option Nat)} {cs : List Expr} {k : Nat} {x y : Str} {p p' p2 pos : Pos} (he : S.en = some i) (h1 : x = "isinstance") (h2 : gloB S x = true) (hi : n.ei = true) (hN : S.N[i]? = some y) (h4 : visB S y = true) (h5 : okN y = true) (h6 : cs.length = os.length) (h7 : ((os.zip cs).all fun p => ckXt n S p.1 p.2) = true) (h8 : os.length ≤ 1000) :
    PE X (.Call (.Name x p) [.Name y p', .Tuple cs k p2] [] pos) (rE g T C hx W (.eisi os)) := by
  subst h1
  obtain ⟨q1, s1, p1⟩ := ckXts_ok O h6 h7
  obtain ⟨c, X0, oe, pn, e1, e2, e3, e6, zc, fld, xc, kit⟩ := ei_at O he hi
  have nm := O.N
  have vs := O.vis h4
  have gl := O.gl h2
  have bl := O.top.blt "isinstance" (by decide)
  have bi := boot_isi O
  cases hd : c.dx with
  | some dd =>
    refine PE.weak pe_noX fun σ H Q ⟨m, env, st, SR_, ER_, h⟩ => ?_
    rw [e2] at h
    obtain ⟨f0, _⟩ := ei_wp h
    obtain ⟨_, _, _, r3⟩ := ER_.cx c e1
    rcases r3 with ⟨_, r3⟩ | ⟨_, _, _, _, _, r3⟩
    · rw [hd] at r3; cases r3
    · exact r3 f0
  | none =>
    rw [hd] at zc
    subst e6
    refine PE.weak (pe_callB (call_isET xc zc fld) gl bl bi (pa_cons (pe_var (i := i) (by rw [nm]; exact hN) vs (okN_1 h5) (okN_2 h5)) (pa_cons (pe_tup p1) pa_nil (star_cons rfl)) (star_cons rfl)) (by decide) (by decide) (star_cons rfl) (star_any rfl)) fun σ H Q ⟨m, env, st, SR_, ER_, h⟩ => ?_
    rw [e2] at h
    obtain ⟨_, hq⟩ := ei_wp h
    obtain ⟨s2, _⟩ := ER_.cx c e1
    rw [e3] at s2
    refine ⟨_, s2, ?_, fun p np => ?_⟩
    · rw [List.length_map]
      exact Nat.le_trans h8 (by decide)
    · have e2' : Ext m m H (upd H p (.tup (os.map (xtV g)))) := ext_new np fun _ _ z => z
      have S2 := SR_.fresh (u := .tup (os.map (xtV g))) np
      exact ⟨p, os.map (xtV g), os.map (xtV1 g), _, rfl, upd_same, clsXs_of os, kitsX kit os q1, Wn.bl S2 (Wn.ext e2' hq)⟩
def JR (g : G) (m : Mp) (H : Hp) (j : J) (J0 : It) : Prop := ∀ (m' : Mp) (H' : Hp) (st' : Store) (i : Nat), Ext m m' H H' → SR g m' H' st' →
  (j.at i st' = some none → J0.stop i H') ∧ ∀ d, j.at i st' = some (some d) → J0.go i H' ∧ ∀ x H2, J0.yld i H' x H2 → Ext m' m' H' H2 ∧ SR g m' H2 st' ∧ RD g m' H2 d x
omit O in
theorem JR.ext {m m' : Mp} {H H' : Hp} {j : J} {J0 : It} (e : Ext m m' H H') (h : JR g m H j J0) : JR g m' H' j J0 := fun m2 H2 st i e2 S2 => h m2 H2 st i (e.trans e2) S2
def rI (g : G) (T : Tab) (C : Calls) (hx : Option Exc) (W : WX) (it : E) : TI := fun σ H R => ∃ (m : Mp) (env : Env) (st : Store), SR g m H st ∧ ER g m H σ env ∧
  wpI T C hx it env st (fun j s => ∀ m' H' J0, Ext m m' H H' → SR g m' H' s → JR g m' H' j J0 → R J0 H') (Wx g m H (WE W σ))
theorem PI.weak {tg it : Expr} {t t' : TI} (h : PI X tg it t) (w : ∀ σ H R, t' σ H R → t σ H R) : PI X tg it t' := ⟨fun pins s σ H R I q => h.run pins s σ H R I (w σ H R q)⟩
omit O in
theorem jr_range {m : Mp} {H : Hp} (lo : Int) (k : Nat) : JR g m H (.seq (rngD lo k)) (Itr lo k) := by
  intro m' H' st i e S1
  have at_ : (J.seq (rngD lo k)).at i st = some ((rngD lo k)[i]?) := rfl
  rw [at_]
  unfold rngD
  rw [List.getElem?_map]
  refine ⟨fun h => ?_, fun d h => ?_⟩
  · by_cases l : i < k
    · rw [List.getElem?_range l] at h
      cases h
    · exact Nat.le_of_not_lt l
  · by_cases l : i < k
    · rw [List.getElem?_range l] at h
      cases h
      exact ⟨l, fun x H2 ⟨a, b⟩ => by subst a b; exact ⟨.refl _ _, S1, rfl⟩⟩
    · rw [List.getElem?_eq_none (by simpa using Nat.le_of_not_lt l)] at h
      cases h
theorem i_rng1 {tg ea : Expr} {a : E} {x : Str} {p pos : Pos} (h1 : x = "range") (h2 : gloB S x = true) (h3 : noStar ea = true) (ha : PE X ea (rE g T C hx W a)) : PI X tg (.Call (.Name x p) [ea] [] pos) (rI g T C hx W (.rng1 a)) := by
  subst h1
  refine PI.weak O (pi_range1 (O.gl h2) (O.top.blt _ (by decide)) (a_cons O h3 ha (a_nil O)) (star_cons h3)) fun σ H R ⟨m, env, st, SR_, ER_, h⟩ => ?_
  refine go_A O SR_ ER_ (R := fun ds s1 => ∃ x, ds = [x] ∧ match x with
    | .int n => -(2 ^ 62) ≤ n ∧ n < 2 ^ 62 ∧ ∀ m' H' J0, Ext m m' H H' → SR g m' H' s1 → JR g m' H' (.seq (rngD 0 n.toNat)) J0 → R J0 H'
    | _ => False) (wpE_mono O.MC a env st _ _ _ _ (fun d s z => ⟨d, rfl, z⟩) (fun _ _ z => z) h) fun ds s1 m1 H1 vs e1 S1 E1 r1 ⟨x, ex, z⟩ => ?_
  subst ex
  obtain ⟨v, rfl, rv⟩ := r1.un1
  split at z
  · cases rd_int rv
    exact ⟨_, rfl, z.1, z.2.1, z.2.2 m1 H1 _ e1 S1 (jr_range 0 _)⟩
  · exact z.elim
theorem i_rng2 {tg ea eb : Expr} {a b : E} {x : Str} {p pos : Pos} (h1 : x = "range") (h2 : gloB S x = true) (h3 : noStar ea = true) (h4 : noStar eb = true) (ha : PE X ea (rE g T C hx W a)) (hb : PE X eb (rE g T C hx W b)) :
    PI X tg (.Call (.Name x p) [ea, eb] [] pos) (rI g T C hx W (.rng2 a b)) := by
  subst h1
  refine PI.weak O (pi_range2 (O.gl h2) (O.top.blt _ (by decide)) (a_cons O h3 ha (a_cons O h4 hb (a_nil O))) (by rw [star_cons h3, star_cons h4]; rfl) (star_cons h4)) fun σ H R ⟨m, env, st, SR_, ER_, h⟩ => ?_
  refine go_A O SR_ ER_ (R := fun ds s1 => ∃ x y, ds = [x, y] ∧ match x, y with
    | .int m0, .int n => (-(2 ^ 62) ≤ m0 ∧ m0 < 2 ^ 62 ∧ -(2 ^ 62) ≤ n ∧ n < 2 ^ 62) ∧ ∀ m' H' J0, Ext m m' H H' → SR g m' H' s1 → JR g m' H' (.seq (rngD m0 (n - m0).toNat)) J0 → R J0 H'
    | _, _ => False) (wpE_mono O.MC a env st _ _ _ _ (fun d s z => wpE_mono O.MC b env s _ _ _ _ (fun d2 s z => ⟨d, d2, rfl, z⟩) (fun _ _ z => z) z) (fun _ _ z => z) h) fun ds s1 m1 H1 vs e1 S1 E1 r1 ⟨x, y, ex, z⟩ => ?_
  subst ex
  obtain ⟨v, w, rfl, rv, rw'⟩ := r1.two
  split at z
  · cases rd_int rv
    cases rd_int rw'
    exact ⟨_, _, rfl, z.1, z.2 m1 H1 _ e1 S1 (jr_range _ _)⟩
  · exact z.elim
def iSeq (K : PySem.W.Frag) (te : TE) : TI := fun σ H R => te σ H fun x H1 => (∃ a xs, x = .ref a ∧ SqL K H1 a xs ∧ R (Itl K a) H1) ∨ (∃ a xs, x = .ref a ∧ SqT K H1 a xs ∧ R (Itt K a) H1) ∨ ∃ z, x = .str z ∧ R (Its z) H1
theorem pi_seq {tg l : Expr} {tl : TE} (hl : PE X l tl) : PI X tg l (iSeq X.K tl) := by
  refine ⟨fun pins s σ H R I h => ?_⟩
  refine thn (hl.run pins s σ H _ I h) fun v s1 ⟨x, H1, I1, r1, q1⟩ => ?_
  rcases q1 with ⟨a, xs, rfl, hq, q⟩ | ⟨a, xs, rfl, hq, q⟩ | ⟨z, rfl, q⟩
  · cases r1
    obtain ⟨its, rv, p, hz⟩ := I1.list hq
    exact wpAny_pyIter_list p.isList (pi_one (tk := s1.toks) I1 _ (turn_list a _) ⟨_, Heap.get?_push_size _ rfl, rfl, rfl⟩ q)
  · cases r1
    obtain ⟨its, rv, p, hz⟩ := I1.tuple hq
    exact wpAny_pyIter_tuple (show s1.heap.IsTuple a its.toArray from p) (pi_one (tk := s1.toks) I1 _ (turn_tuple a _) ⟨_, Heap.get?_push_size _ rfl, rfl, rfl⟩ q)
  · obtain ⟨t, rfl⟩ := r1
    cases ha : z.cps.all (· < 128)
    · exact wpAny_pyIter_wide ha (pi_one (tk := s1.toks) I1 _ (turn_str _ z t "str_iterator" (.inr rfl)) ⟨_, Heap.get?_push_size _ rfl, rfl, rfl⟩ q)
    · exact wpAny_pyIter_ascii ha (pi_one (tk := s1.toks) I1 _ (turn_str _ z t "str_ascii_iterator" (.inl rfl)) ⟨_, Heap.get?_push_size _ rfl, rfl, rfl⟩ q)
omit O in
theorem jr_lst {m : Mp} {H : Hp} {h : Nat} {a : Addr} (ea : m h = some a) : JR g m H (.lst h) (Itl g.K a) := by
  intro m' H' st i e S1
  have ea := e.mm _ _ ea
  have key : ∀ ds : List D, st[h]? = some (.lst ds) ∨ st[h]? = some (.fro ds) → (some ds[i]? = some none → (Itl g.K a).stop i H') ∧ ∀ d, some ds[i]? = some (some d) → (Itl g.K a).go i H' ∧ ∀ x H2, (Itl g.K a).yld i H' x H2 → Ext m' m' H' H2 ∧ SR g m' H2 st ∧ RD g m' H2 d x := fun ds e0 => by
    obtain ⟨vs, hq, rd⟩ := S1.sqL ea e0
    refine ⟨fun q => ⟨vs, hq, ?_⟩, fun d q => ?_⟩
    · rw [rd.length]
      exact List.getElem?_eq_none_iff.mp (Option.some.inj q)
    · obtain ⟨v, hv, rv⟩ := rd.get (Option.some.inj q)
      refine ⟨⟨vs, v, hq, hv⟩, fun x H2 ⟨e1, k⟩ => ?_⟩
      subst e1
      have q := k vs hq
      rw [hv] at q
      cases q
      exact ⟨.refl _ _, S1, rv⟩
  unfold J.at
  dsimp only
  split
  · exact key _ (.inl (by assumption))
  · exact key _ (.inr (by assumption))
  · exact ⟨(fun q => nomatch q), (fun d q => nomatch q)⟩
omit O in
theorem jr_tup {m : Mp} {H : Hp} {a : Addr} {ds : List D} {vs : List V} (hq : SqT g.K H a vs) (rd : RDs g m H ds vs) : JR g m H (.seq ds) (Itt g.K a) := by
  intro m' H' st i e S1
  have hq := SqT.ext e hq
  have rd := RDs.mono e _ _ rd
  refine ⟨fun q => ⟨vs, hq, ?_⟩, fun d q => ?_⟩
  · rw [rd.length]
    exact List.getElem?_eq_none_iff.mp (Option.some.inj q)
  · obtain ⟨v, hv, rv⟩ := rd.get (Option.some.inj q)
    refine ⟨⟨vs, v, hq, hv⟩, fun x H2 ⟨e1, k⟩ => ?_⟩
    subst e1
    have q := k vs hq
    rw [hv] at q
    cases q
    exact ⟨.refl _ _, S1, rv⟩
omit O in
theorem jr_str {m : Mp} {H : Hp} {z : List Nat} : JR g m H (.seq (z.map fun c => .str [c])) (Its ⟨z.toArray⟩) := by
  intro m' H' st i e S1
  have sz : (⟨z.toArray⟩ : Str).cps.size = z.length := by simp
  have at_ : (J.seq (z.map fun c => D.str [c])).at i st = some ((z.map fun c => D.str [c])[i]?) := rfl
  rw [at_, List.getElem?_map]
  refine ⟨fun q => ?_, fun d q => ?_⟩
  · show (⟨z.toArray⟩ : Str).cps.size ≤ i
    rw [sz]
    by_cases l : i < z.length
    · rw [List.getElem?_eq_getElem l] at q
      cases q
    · exact Nat.le_of_not_lt l
  · by_cases l : i < z.length
    · rw [List.getElem?_eq_getElem l] at q
      cases q
      refine ⟨show i < (⟨z.toArray⟩ : Str).cps.size by rw [sz]; exact l, fun x H2 ⟨e1, c, hc, k⟩ => ?_⟩
      subst e1 k
      have hc : z.toArray[i]? = some c := hc
      rw [List.getElem?_toArray, List.getElem?_eq_getElem l] at hc
      cases hc
      exact ⟨.refl _ _, S1, rfl⟩
    · rw [List.getElem?_eq_none (Nat.le_of_not_lt l)] at q
      cases q
theorem i_sq {tg ea : Expr} {a : E} (ha : PE X ea (rE g T C hx W a)) : PI X tg ea (rI g T C hx W (.sq a)) := by
  refine PI.weak O (pi_seq O ha) fun σ H R ⟨m, env, st, SR_, ER_, h⟩ => ?_
  refine go_E O SR_ ER_ h fun y s1 m1 H1 v1 e1 S1 E1 r1 z => ?_
  unfold walkQ at z
  rw [O.K]
  split at z
  · obtain ⟨a, vs, rfl, hq, rd⟩ := rd_tup r1
    exact .inr (.inl ⟨a, vs, rfl, hq, z m1 H1 _ e1 S1 (jr_tup hq rd)⟩)
  · cases rd_str r1
    exact .inr (.inr ⟨_, rfl, z m1 H1 _ e1 S1 jr_str⟩)
  · obtain ⟨a, rfl, ea⟩ := rd_ref r1
    split at z
    · rename_i e0
      obtain ⟨vs, hq, _⟩ := S1.sqL ea (.inl e0)
      exact .inl ⟨a, vs, rfl, hq, z m1 H1 _ e1 S1 (jr_lst ea)⟩
    · rename_i e0
      obtain ⟨vs, hq, _⟩ := S1.sqL ea (.inr e0)
      exact .inl ⟨a, vs, rfl, hq, z m1 H1 _ e1 S1 (jr_lst ea)⟩
    · exact z.elim
  · exact z.elim
omit O in
theorem jr_rev {m : Mp} {H : Hp} {h k : Nat} {a : Addr} (ea : m h = some a) : JR g m H (.rev h k) (Itv g.K a k) := by
  intro m' H' st i e S1
  have ea := e.mm _ _ ea
  have key : ∀ ds : List D, st[h]? = some (.lst ds) ∨ st[h]? = some (.fro ds) → ((if ds.length = k then (if i < k then some ds[k - 1 - i]? else some none) else none) = some none → (Itv g.K a k).stop i H') ∧ ∀ d, (if ds.length = k then (if i < k then some ds[k - 1 - i]? else some none) else none) = some (some d) → (Itv g.K a k).go i H' ∧ ∀ x H2, (Itv g.K a k).yld i H' x H2 → Ext m' m' H' H2 ∧ SR g m' H2 st ∧ RD g m' H2 d x := fun ds e0 => by
    obtain ⟨vs, hq, rd⟩ := S1.sqL ea e0
    refine ⟨fun q => ?_, fun d q => ?_⟩
    · by_cases l : ds.length = k
      · rw [if_pos l] at q
        by_cases li : i < k
        · rw [if_pos li, List.getElem?_eq_getElem (by omega)] at q
          cases q
        · exact Nat.le_of_not_lt li
      · rw [if_neg l] at q
        cases q
    · by_cases l : ds.length = k
      · rw [if_pos l] at q
        by_cases li : i < k
        · rw [if_pos li] at q
          obtain ⟨v, hv, rv⟩ := rd.get (Option.some.inj q)
          refine ⟨⟨li, vs, v, hq, hv⟩, fun x H2 ⟨eH, kk⟩ => ?_⟩
          subst eH
          have q := kk vs hq
          rw [hv] at q
          cases q
          exact ⟨.refl _ _, S1, rv⟩
        · rw [if_neg li] at q
          cases q
      · rw [if_neg l] at q
        cases q
  unfold J.at
  dsimp only
  split
  · exact key _ (.inl (by assumption))
  · exact key _ (.inr (by assumption))
  · exact ⟨(fun q => nomatch q), (fun d q => nomatch q)⟩
theorem i_rev {ea tg : Expr} {a : E} {x : Str} {p pos : Pos} (h1 : x = "reversed") (h2 : gloB S x = true) (h3 : noStar ea = true) (ha : PE X ea (rE g T C hx W a)) : PI X tg (.Call (.Name x p) [ea] [] pos) (rI g T C hx W (.rev a)) := by
  subst h1
  refine PI.weak O (RT.pi_revA (O.gl h2) (O.top.blt _ (by decide)) ha (star_cons h3)) fun σ H R ⟨m, env, st, SR_, ER_, h⟩ => ?_
  refine go_E O SR_ ER_ h fun y s1 m1 H1 v1 e1 S1 E1 r1 z => ?_
  rw [O.K]
  unfold revQ at z
  split at z
  · obtain ⟨b, rfl, eb⟩ := rd_ref r1
    split at z
    · rename_i e0
      obtain ⟨vs, h2, h3⟩ := S1.sqL eb (.inl e0)
      exact ⟨b, vs, rfl, .inl ⟨h2, by rw [h3.length]; exact z m1 H1 _ e1 S1 (jr_rev eb)⟩⟩
    · rename_i e0
      obtain ⟨vs, h2, h3⟩ := S1.sqL eb (.inr e0)
      exact ⟨b, vs, rfl, .inl ⟨h2, by rw [h3.length]; exact z m1 H1 _ e1 S1 (jr_rev eb)⟩⟩
    · exact z.elim
  · exact z.elim
omit O in
theorem jr_enm {m : Mp} {H : Hp} {h : Nat} {a : Addr} (ea : m h = some a) : JR g m H (.enm h) (Ite g.K a) := by
  intro m' H' st i e S1
  have ea := e.mm _ _ ea
  have key : ∀ ds : List D, st[h]? = some (.lst ds) ∨ st[h]? = some (.fro ds) → (some (ds[i]?.map fun d => D.tup [.int i, d]) = some none → (Ite g.K a).stop i H') ∧ ∀ d, some (ds[i]?.map fun d => D.tup [.int i, d]) = some (some d) → (Ite g.K a).go i H' ∧ ∀ x H2, (Ite g.K a).yld i H' x H2 → Ext m' m' H' H2 ∧ SR g m' H2 st ∧ RD g m' H2 d x := fun ds e0 => by
    obtain ⟨vs, hq, rd⟩ := S1.sqL ea e0
    refine ⟨fun q => ⟨vs, hq, ?_⟩, fun d q => ?_⟩
    · rw [rd.length]
      exact List.getElem?_eq_none_iff.mp (Option.map_eq_none_iff.mp (Option.some.inj q))
    · obtain ⟨d0, hd0, ed⟩ := Option.map_eq_some_iff.mp (Option.some.inj q)
      subst ed
      obtain ⟨v, hv, rv⟩ := rd.get hd0
      refine ⟨⟨vs, v, hq, hv⟩, fun x H2 ⟨p, y, ex, np, eH, k⟩ => ?_⟩
      subst ex eH
      have q := k vs hq
      rw [hv] at q
      cases q
      have e2 : Ext m' m' H' (upd H' p (.tup [.int (i : Nat), v])) := ext_new np fun _ _ z => z
      exact ⟨e2, S1.fresh np, p, _, rfl, .inl (.inl upd_same), .cons rfl (.one (RD.mono e2 _ _ rv))⟩
  unfold J.at
  dsimp only
  split
  · exact key _ (.inl (by assumption))
  · exact key _ (.inr (by assumption))
  · exact ⟨(fun q => nomatch q), (fun d q => nomatch q)⟩
theorem i_enm {es : List Expr} {k : Nat} {ea : Expr} {a : E} {x : Str} {p pos tp : Pos} (h1 : x = "enumerate") (h2 : gloB S x = true) (h3 : noStar ea = true) (ha : PE X ea (rE g T C hx W a)) : PI X (.Tuple es k tp) (.Call (.Name x p) [ea] [] pos) (rI g T C hx W (.enm a)) := by
  subst h1
  refine PI.weak O (pi_enum (O.gl h2) (O.top.blt _ (by decide)) (a_cons O h3 ha (a_nil O)) (star_cons h3)) fun σ H R ⟨m, env, st, SR_, ER_, h⟩ => ?_
  refine go_A O SR_ ER_ (R := fun ds s1 => ∃ x, ds = [x] ∧ enmQ s1 x fun j => ∀ m' H' J0, Ext m m' H H' → SR g m' H' s1 → JR g m' H' j J0 → R J0 H')
    (wpE_mono O.MC a env st _ _ _ _ (fun d s z => ⟨d, rfl, z⟩) (fun _ _ z => z) h) fun ds s1 m1 H1 vs e1 S1 E1 r1 ⟨x, ex, z⟩ => ?_
  subst ex
  obtain ⟨v, rfl, rv⟩ := r1.un1
  unfold enmQ at z
  rw [O.K]
  split at z
  · obtain ⟨a, rfl, ea⟩ := rd_ref rv
    split at z
    · rename_i e0
      obtain ⟨vs, hq, _⟩ := S1.sqL ea (.inl e0)
      exact ⟨a, vs, rfl, hq, z m1 H1 _ e1 S1 (jr_enm ea)⟩
    · rename_i e0
      obtain ⟨vs, hq, _⟩ := S1.sqL ea (.inr e0)
      exact ⟨a, vs, rfl, hq, z m1 H1 _ e1 S1 (jr_enm ea)⟩
    · exact z.elim
  · exact z.elim
omit O in
theorem jr_zip {m : Mp} {H : Hp} {h h' : Nat} {a b : Addr} (ea : m h = some a) (eb : m h' = some b) : JR g m H (.zip h h') (Itz g.K a b) := by
  intro m' H' st i e S1
  have ea := e.mm _ _ ea
  have eb := e.mm _ _ eb
  unfold J.at
  dsimp only
  split
  · rename_i xs ys e0 e0'
    obtain ⟨vs, hq, rd⟩ := S1.sqL ea (.inl e0)
    obtain ⟨ws, hq', rd'⟩ := S1.sqL eb (.inl e0')
    split
    · rename_i x y ex ey
      refine ⟨(fun q => nomatch q), fun d q => ?_⟩
      cases q
      obtain ⟨v, hv, rv⟩ := rd.get ex
      obtain ⟨w, hw, rw'⟩ := rd'.get ey
      refine ⟨⟨vs, ws, v, w, hq, hq', hv, hw⟩, fun u H2 ⟨p, y1, y2, eu, np, eH, k, k'⟩ => ?_⟩
      subst eu eH
      have q := k vs hq
      rw [hv] at q
      cases q
      have q := k' ws hq'
      rw [hw] at q
      cases q
      have e2 : Ext m' m' H' (upd H' p (.tup [v, w])) := ext_new np fun _ _ z => z
      exact ⟨e2, S1.fresh np, p, _, rfl, .inl (.inl upd_same), .cons (RD.mono e2 _ _ rv) (.one (RD.mono e2 _ _ rw'))⟩
    · rename_i no
      refine ⟨fun _ => ⟨vs, ws, hq, hq', ?_⟩, (fun d q => nomatch q)⟩
      rw [rd.length, rd'.length]
      by_cases l : i < xs.length
      · by_cases l' : i < ys.length
        · exact (no _ _ (List.getElem?_eq_getElem l) (List.getElem?_eq_getElem l')).elim
        · exact .inr (Nat.le_of_not_lt l')
      · exact .inl (Nat.le_of_not_lt l)
  · exact ⟨(fun q => nomatch q), (fun d q => nomatch q)⟩
omit O in
theorem jr_zipT {m : Mp} {H : Hp} {a b : Addr} {xs ys : List D} {vs ws : List V} (hq : SqT g.K H a vs) (rd : RDs g m H xs vs) (hq' : SqT g.K H b ws) (rd' : RDs g m H ys ws) : JR g m H (.seq (List.zipWith (fun u v => .tup [u, v]) xs ys)) (ItzT g.K a b) := by
  intro m' H' st i e S1
  have hq := SqT.ext e hq
  have rd := RDs.mono e _ _ rd
  have hq' := SqT.ext e hq'
  have rd' := RDs.mono e _ _ rd'
  have at_ : (J.seq (List.zipWith (fun u v => D.tup [u, v]) xs ys)).at i st = some ((List.zipWith (fun u v => D.tup [u, v]) xs ys)[i]?) := rfl
  rw [at_, List.getElem?_zipWith]
  by_cases l : i < xs.length
  · by_cases l' : i < ys.length
    · rw [List.getElem?_eq_getElem l, List.getElem?_eq_getElem l']
      refine ⟨(fun q => nomatch q), fun d q => ?_⟩
      cases q
      obtain ⟨v, hv, rv⟩ := rd.get (List.getElem?_eq_getElem l)
      obtain ⟨w, hw, rw'⟩ := rd'.get (List.getElem?_eq_getElem l')
      refine ⟨⟨vs, ws, v, w, hq, hq', hv, hw⟩, fun u H2 ⟨p, y1, y2, eu, np, eH, k, k'⟩ => ?_⟩
      subst eu eH
      have q := k vs hq
      rw [hv] at q
      cases q
      have q := k' ws hq'
      rw [hw] at q
      cases q
      have e2 : Ext m' m' H' (upd H' p (.tup [v, w])) := ext_new np fun _ _ z => z
      exact ⟨e2, S1.fresh np, p, _, rfl, .inl (.inl upd_same), .cons (RD.mono e2 _ _ rv) (.one (RD.mono e2 _ _ rw'))⟩
    · rw [List.getElem?_eq_none (Nat.le_of_not_lt l')]
      refine ⟨fun _ => ⟨vs, ws, hq, hq', .inr ?_⟩, fun d q => ?_⟩
      · rw [rd'.length]; exact Nat.le_of_not_lt l'
      · rw [List.getElem?_eq_getElem l] at q; cases q
  · rw [List.getElem?_eq_none (Nat.le_of_not_lt l)]
    refine ⟨fun _ => ⟨vs, ws, hq, hq', .inl ?_⟩, (fun d q => nomatch q)⟩
    rw [rd.length]; exact Nat.le_of_not_lt l
omit O in
theorem jr_zipX {m : Mp} {H : Hp} {b : Addr} {z : List Nat} {ys : List D} {ws : List V} (hq' : SqT g.K H b ws) (rd' : RDs g m H ys ws) : JR g m H (.seq (List.zipWith (fun u v => .tup [u, v]) (z.map fun c => .str [c]) ys)) (ItxT g.K ⟨z.toArray⟩ b ys.length) := by
  intro m' H' st i e S1
  have hq' := SqT.ext e hq'
  have rd' := RDs.mono e _ _ rd'
  have at_ : (J.seq (List.zipWith (fun u v => D.tup [u, v]) (z.map fun c => .str [c]) ys)).at i st = some ((List.zipWith (fun u v => D.tup [u, v]) (z.map fun c => .str [c]) ys)[i]?) := rfl
  have cz : ∀ j : Nat, (⟨z.toArray⟩ : Str).cps[j]? = z[j]? := fun j => by simp
  rw [at_, List.getElem?_zipWith, List.getElem?_map]
  by_cases l : i < z.length
  · by_cases l' : i < ys.length
    · rw [List.getElem?_eq_getElem l, List.getElem?_eq_getElem l']
      refine ⟨(fun q => nomatch q), fun d q => ?_⟩
      cases q
      obtain ⟨w, hw, rw'⟩ := rd'.get (List.getElem?_eq_getElem l')
      refine ⟨⟨ws, w, z[i], hq', rd'.length, by rw [cz, List.getElem?_eq_getElem l], hw⟩, fun u H2 ⟨p, c, y2, eu, np, eH, k, k'⟩ => ?_⟩
      subst eu eH
      rw [cz, List.getElem?_eq_getElem l] at k
      cases k
      have q := k' ws hq'
      rw [hw] at q
      cases q
      have e2 : Ext m' m' H' (upd H' p (.tup [.str ⟨#[z[i]]⟩, w])) := ext_new np fun _ _ z => z
      exact ⟨e2, S1.fresh np, p, _, rfl, .inl (.inl upd_same), .cons rfl (.one (RD.mono e2 _ _ rw'))⟩
    · rw [List.getElem?_eq_none (Nat.le_of_not_lt l'), List.getElem?_eq_getElem l]
      exact ⟨fun _ => ⟨ws, hq', rd'.length, .inr (Nat.le_of_not_lt l')⟩, (fun d q => nomatch q)⟩
  · rw [List.getElem?_eq_none (Nat.le_of_not_lt l)]
    exact ⟨fun _ => ⟨ws, hq', rd'.length, .inl (by simpa using Nat.le_of_not_lt l)⟩, (fun d q => nomatch q)⟩
theorem i_zip {es : List Expr} {k : Nat} {ea eb : Expr} {a b : E} {x : Str} {p pos tp : Pos} (h1 : x = "zip") (h2 : gloB S x = true) (h3 : noStar ea = true) (h4 : noStar eb = true) (ha : PE X ea (rE g T C hx W a)) (hb : PE X eb (rE g T C hx W b)) :
    PI X (.Tuple es k tp) (.Call (.Name x p) [ea, eb] [] pos) (rI g T C hx W (.zip a b)) := by
  subst h1
  refine PI.weak O (pi_zipX (O.gl h2) (O.top.blt _ (by decide)) (a_cons O h3 ha (a_cons O h4 hb (a_nil O))) (star_cons h3) (star_any (show (noStar eb && true) = true by rw [h4]; rfl))) fun σ H R ⟨m, env, st, SR_, ER_, h⟩ => ?_
  refine go_A O SR_ ER_ (R := fun ds s1 => ∃ x y, ds = [x, y] ∧ zipQ s1 x y fun j => ∀ m' H' J0, Ext m m' H H' → SR g m' H' s1 → JR g m' H' j J0 → R J0 H')
    (wpE_mono O.MC a env st _ _ _ _ (fun d s z => wpE_mono O.MC b env s _ _ _ _ (fun d2 s z => ⟨d, d2, rfl, z⟩) (fun _ _ z => z) z) (fun _ _ z => z) h) fun ds s1 m1 H1 vs e1 S1 E1 r1 ⟨x, y, ex, z⟩ => ?_
  subst ex
  obtain ⟨v, w, rfl, rv, rw'⟩ := r1.two
  unfold zipQ at z
  rw [O.K]
  split at z
  · obtain ⟨a, vs, rfl, hq, rd⟩ := rd_tup rv
    obtain ⟨b, ws, rfl, hq', rd'⟩ := rd_tup rw'
    exact .inl ⟨a, b, vs, ws, rfl, .inr ⟨hq, hq', z m1 H1 _ e1 S1 (jr_zipT hq rd hq' rd')⟩⟩
  · cases rd_str rv
    obtain ⟨b, ws, rfl, hq', rd'⟩ := rd_tup rw'
    refine .inr ⟨_, b, ws, rfl, hq', z m1 H1 _ e1 S1 ?_⟩
    rw [rd'.length]
    exact jr_zipX hq' rd'
  · obtain ⟨a, rfl, ea⟩ := rd_ref rv
    obtain ⟨b, rfl, eb⟩ := rd_ref rw'
    split at z
    · rename_i e0 e0'
      obtain ⟨vs, hq, _⟩ := S1.sqL ea (.inl e0)
      obtain ⟨ws, hq', _⟩ := S1.sqL eb (.inl e0')
      exact .inl ⟨a, b, vs, ws, rfl, .inl ⟨hq, hq', z m1 H1 _ e1 S1 (jr_zip ea eb)⟩⟩
    · exact z.elim
  · exact z.elim
omit O in
theorem wipe_set {σ : L2.St} {i : Nat} {x : Option V} : ∀ {vs : List Nat}, i ∈ vs → wipe (σ.set i x) vs = wipe σ vs
  | v :: vs, h => by
    by_cases e : i ∈ vs
    · show (wipe (σ.set i x) vs).set v none = (wipe σ vs).set v none
      rw [wipe_set e]
    · have z : i = v := by
        cases h with
        | head => rfl
        | tail _ m => exact absurd m e
      subst z
      show (wipe (σ.set i x) vs).set i none = (wipe σ vs).set i none
      have out : ∀ {ws : List Nat}, i ∉ ws → wipe (σ.set i x) ws = (wipe σ ws).set i x := by
        intro ws
        induction ws with
        | nil => intro _; rfl
        | cons w ws ih =>
          intro hw
          have h1 : w ≠ i := fun e => hw (by rw [e]; exact List.mem_cons_self)
          have h2 : i ∉ ws := fun m => hw (List.mem_cons_of_mem _ m)
          show (wipe (σ.set i x) ws).set w none = ((wipe σ ws).set w none).set i x
          rw [ih h2, List.set_comm _ _ (Ne.symm h1)]
      rw [out e, List.set_set]
def rG (g : G) (tg : Tg) : TG := fun v σ H Q => ∃ (m : Mp) (env env' : Env) (d : D), ER g m H σ env ∧ RD g m H d v ∧ bindT tg d env = some env' ∧ ∀ σ', ER g m H σ' env' → (∀ vs, (∀ i ∈ tgVs tg, i ∈ vs) → wipe σ' vs = wipe σ vs) → Q σ' H
omit O in
theorem PG.weak {tg : Expr} {t t' : TG} (h : PG X tg t) (w : ∀ v σ H Q, t' v σ H Q → t v σ H Q) : PG X tg t' := ⟨fun pins s σ H v u Q I r q => h.run pins s σ H v u Q I r (w v σ H Q q)⟩
def stoB (X : Cx) (x : Str) : Prop := Loc X.env.scope x ∧ (X.fn x = true ∨ X.env.scope.names.lookup x = some .local)
omit O in
theorem g_name {i : Nat} {x : Str} {p : Pos} (fr : FreeC g i) (nd : X.N.Nodup) (h1 : X.N[i]? = some x) (h2 : stoB X x) : PG X (.Name x p) (rG g (.nm i)) := by
  refine PG.weak (pg_name nd h1 h2.1 h2.2) fun v σ H Q ⟨m, env, env', d, E1, r, b, k⟩ => ?_
  cases b
  exact k _ (E1.set i fr r) fun vs hv => wipe_set (hv i (by simp [tgVs]))
def rGs (is : List Nat) : TGs := fun vs σ H Q => vs.length = is.length ∧ Q ((is.zip vs).foldl (fun s p => s.set p.1 (some p.2)) σ) H
omit O in
theorem gs_names (nd : X.N.Nodup) : ∀ {is : List Nat} {es : List Expr}, es.length = is.length → (∀ p ∈ is.zip es, ∃ x ps, p.2 = .Name x ps ∧ X.N[p.1]? = some x ∧ stoB X x) → PGs X es (rGs is) ∧ (assignEach es X.env).length = es.length ∧ (assignEach es X.env).findIdx? (·.1) = none
  | [], [], _, _ => ⟨⟨fun pins s σ H vs us Q I r h => pgs_nil.run pins s σ H vs us Q I r ⟨List.eq_nil_of_length_eq_zero h.1, by
      have e := List.eq_nil_of_length_eq_zero h.1
      subst e
      exact h.2⟩⟩, rfl, rfl⟩
  | i :: is, e :: es, l, h => by
    obtain ⟨x, ps, e1, h1, h2⟩ := h (i, e) (by simp)
    dsimp only at e1 h1
    subst e1
    obtain ⟨k1, k2, k3⟩ := gs_names nd (Nat.succ.inj l) fun p hp => h p (by rw [List.zip_cons_cons]; exact List.mem_cons_of_mem _ hp)
    have ae : assignEach (.Name x ps :: es) X.env = (false, assign (.Name x ps) X.env) :: assignEach es X.env := rfl
    refine ⟨⟨fun pins s σ H vs us Q I r q => (pgs_cons (pg_name (pos := ps) nd h1 h2.1 h2.2) k1 (by rw [ae]; rfl)).run pins s σ H vs us Q I r ?_⟩, by rw [ae, List.length_cons, List.length_cons, k2], by
      rw [ae, List.findIdx?_cons]
      simp [k3]⟩
    obtain ⟨q1, q2⟩ := q
    cases vs with
    | nil => cases q1
    | cons v vs => exact ⟨v, vs, rfl, Nat.succ.inj q1, q2⟩
omit O in
theorem er_fold {m : Mp} {H : Hp} : ∀ {is : List Nat} {ds : List D} {vs : List V} {σ : L2.St} {env : Env}, (∀ i ∈ is, FreeC g i) → ER g m H σ env → RDs g m H ds vs → ER g m H ((is.zip vs).foldl (fun s p => s.set p.1 (some p.2)) σ) ((is.zip ds).foldl (fun e p => e.set p.1 (some p.2)) env)
  | [], _, _, _, _, _, h, _ => by simpa using h
  | i :: is, [], vs, _, _, _, h, r => by
    rw [show vs = [] from r]
    simpa using h
  | i :: is, d :: ds, vs, σ, env, fr, h, r => by
    obtain ⟨v, r', rfl, h2, h3⟩ := r
    rw [List.zip_cons_cons, List.zip_cons_cons, List.foldl_cons, List.foldl_cons]
    exact er_fold (fun j m => fr j (List.mem_cons_of_mem _ m)) (h.set i (fr i List.mem_cons_self) h2) h3
omit O in
theorem wipe_fold {ws : List Nat} : ∀ {is : List Nat} {vs : List V} {σ : L2.St}, (∀ i ∈ is, i ∈ ws) → wipe ((is.zip vs).foldl (fun s p => s.set p.1 (some p.2)) σ) ws = wipe σ ws
  | [], _, _, _ => by simp
  | i :: is, [], _, _ => by simp
  | i :: is, v :: vs, σ, h => by
    rw [List.zip_cons_cons, List.foldl_cons, wipe_fold fun j hj => h j (List.mem_cons_of_mem _ hj), wipe_set (h i List.mem_cons_self)]
theorem g_tup {is : List Nat} {es : List Expr} {k : Nat} {p : Pos} (fr : ∀ i ∈ is, FreeC g i) (hc : X.calm = true) (h1 : es.length = is.length) (h2 : ∀ p ∈ is.zip es, ∃ x ps, p.2 = .Name x ps ∧ X.N[p.1]? = some x ∧ stoB X x) : PG X (.Tuple es k p) (rG g (.tp is)) := by
  obtain ⟨k1, k2, k3⟩ := gs_names O.nd h1 h2
  refine PG.weak (pg_tup hc k1 k2 k3) fun v σ H Q ⟨m, env, env', d, E1, r, b, kk⟩ => ?_
  cases d with
  | tup ds =>
    obtain ⟨a, vs, rfl, hq, rd⟩ := rd_tup r
    unfold bindT at b
    dsimp only at b
    split at b
    · rename_i e
      cases b
      rw [O.K]
      exact ⟨a, vs, rfl, hq, by rw [rd.length, e, h1], by rw [rd.length, e], kk _ (er_fold fr E1 rd) fun ws hw => wipe_fold hw⟩
    · cases b
  | _ => cases b
omit O in
theorem and2' {a b : Bool} (h : (a && b) = true) : a = true ∧ b = true := by rwa [Bool.and_eq_true] at h
theorem g_any {raw : Option Scope} {tg : Tg} {ex : Expr} (hc : X.calm = true) (st : ∀ x, stB S raw x = true → stoB X x) (h : ckTg S raw tg ex = true) : PG X ex (rG g tg) := by
  obtain ⟨hf, h⟩ := and2' h
  have hf := List.all_eq_true.mp hf
  unfold ckTg0 at h
  split at h
  · rw [Bool.and_eq_true] at h
    refine g_name (O.free (of_decide_eq_true (hf _ List.mem_cons_self))) O.nd ?_ (st _ h.2)
    rw [O.N]
    exact of_decide_eq_true h.1
  · rw [Bool.and_eq_true] at h
    refine g_tup O (fun i m => O.free (of_decide_eq_true (hf i m))) hc (of_decide_eq_true h.1) fun p hp => ?_
    have q := List.all_eq_true.mp h.2 p hp
    split at q
    · rename_i x ps e
      rw [Bool.and_eq_true] at q
      refine ⟨x, ps, e, ?_, st _ q.2⟩
      rw [O.N]
      exact of_decide_eq_true q.1
    · cases q
  · cases h
theorem blk_ok (hn : hx = none) {sc : Scope} {cl : List (Str × Addr)} {A0 : Addr} {s : Shared} {H : Hp} {fp : List Addr} : CxOk g T n C L hx (fun _ _ _ _ => False) (blkS S sc) (X.blk s H sc (compEnvC sc cl A0 X.env) fp) where
  K := O.K
  N := O.N
  nd := O.nd
  sc := by
    show relS sc X.env.scope = relS sc S.sc
    rw [O.sc]
  F := O.F
  MC := O.MC
  tk := fun u s' ⟨a, B, sI, pins, σ, H, cls, d, e, I, nb, up, sky, na, os, ag, w⟩ => w.elim
  hu := O.hu
  calm := O.calm
  room := O.room
  top := O.top
  cal := O.cal
  hL := O.hL
  exi := O.exi
  cxn := O.cxn
  cxe := fun _ => O.cxn hn
  cxs := fun i h => nomatch h
omit O in
theorem set_wipe {σ : L2.St} {v : Nat} : ∀ {ws : List Nat}, v ∈ ws → (wipe σ ws).set v none = wipe σ ws
  | w :: ws, h => by
    show ((wipe σ ws).set w none).set v none = (wipe σ ws).set w none
    by_cases e : v = w
    · subst e
      rw [List.set_set]
    · have m : v ∈ ws := by
        cases h with
        | head => exact absurd rfl e
        | tail _ m => exact m
      rw [List.set_comm _ _ (Ne.symm e), set_wipe m]
omit O in
theorem wipe_wipe (σ : L2.St) (ws : List Nat) : ∀ {vs : List Nat}, (∀ v ∈ vs, v ∈ ws) → wipe (wipe σ ws) vs = wipe σ ws
  | [], _ => rfl
  | v :: vs, h => by
    show (wipe (wipe σ ws) vs).set v none = wipe σ ws
    rw [wipe_wipe σ ws fun x m => h x (List.mem_cons_of_mem _ m), set_wipe (h v List.mem_cons_self)]
def rTs (g : G) (T : Tab) (C : Calls) (hx : Option Exc) (cs : A) : TT := fun σ H Q => ∃ (m : Mp) (env : Env) (st : Store), SR g m H st ∧ ER g m H σ env ∧ wpTs T C hx cs env st fun b s => ∀ m' H', Ext m m' H H' → SR g m' H' s → Q b H'
theorem comp_wt {elt it : E} {tg : Tg} {cs : A} {own : List Nat} (h3 : ∀ i ∈ tgVs tg, i ∈ own) {σ : L2.St} {H : Hp} {Q : VK} (h : rE g T C hx W (.comp elt tg it cs own) σ H Q) :
    tLc (rI g T C hx W it) (rG g tg) (rTs g T C hx cs) (rE g T C hx (fun _ _ _ _ => False) elt) own σ H Q := by
  obtain ⟨m, env, st, SR_, ER_, hn0, h⟩ := h
  have cn := O.cxn hn0
  refine ⟨m, env, st, SR_, ER_, wpI_mono O.MC it env st _ _ _ _ (fun j s1 ⟨k, hc⟩ m1 H1 J0 e1 S1 jr D nD => ?_) (fun _ _ z => z) h⟩
  refine ⟨fun i k H2 => ∃ m2 st2, Ext m1 m2 H1 H2 ∧ SR g m2 H2 st2 ∧ m2 s1.length = some D ∧ cmpN j tg (fun e s P => wpTs T C hx cs e s P) (fun e s P => wpE T C hx elt e s P (fun _ _ => False)) s1.length (Wn g m H Q) k i (wipeE env own) st2, ⟨k, put m1 s1.length D, s1 ++ [.lst []], ext_new nD (put_mm S1), S1.alloc (o := .lst []) nD rfl ⟨[], upd_same, .nil⟩, put_same, hc⟩, ?_⟩
  rintro i k H2 ⟨m2, st2, e2, S2, mD, hc⟩
  cases k with
  | zero => exact hc.elim
  | succ k =>
    unfold cmpN at hc
    have E0 : ER g m2 H2 (wipe σ own) (wipeE env own) := (ER_.mono (e1.trans e2)).wipe cn own
    obtain ⟨j1, j2⟩ := jr m2 H2 st2 i e2 S2
    split at hc
    · exact hc.elim
    · rename_i ea
      exact .inl ⟨j1 ea, hc m2 H2 (.ref D) (e1.trans e2) S2 ⟨D, rfl, mD⟩⟩
    · rename_i d ea
      obtain ⟨go, jy⟩ := j2 d ea
      split at hc
      · exact hc.elim
      · rename_i env' eb
        refine .inr ⟨go, _, fun H' z => ⟨k, Nat.lt_succ_self k, z⟩, fun x H3 yl => ?_⟩
        obtain ⟨e3, S3, rx⟩ := jy x H3 yl
        refine ⟨m2, _, env', d, E0.mono e3, rx, eb, fun σ' E3 hw => ⟨(hw own h3).trans (wipe_wipe _ _ fun _ z => z), m2, env', st2, S3, E3, ?_⟩⟩
        refine wpTs_mono O.MC cs env' st2 _ _ (fun b st4 z m4 H4 e4 S4 => ?_) hc
        cases b with
        | false =>
          rw [if_neg Bool.false_ne_true] at z ⊢
          exact ⟨m4, st4, (e2.trans e3).trans e4, S4, e4.mm _ _ mD, z⟩
        | true =>
          rw [if_pos rfl] at z ⊢
          refine ⟨m4, env', st4, S4, E3.mono e4, wpE_mono O.MC elt env' st4 _ _ _ _ (fun y st5 z m5 H5 v e5 S5 rv => ?_) (fun _ _ z => z.elim) z⟩
          split at z
          · rename_i acc el
            have mD5 := e5.mm _ _ (e4.mm _ _ mD)
            obtain ⟨vs, hD, rd⟩ := S5.lst mD5 el
            refine ⟨vs, hD, by rw [rd.length]; exact z.1, m5, _, ?_, S5.write mD5 el rfl rfl ?_, mD5, z.2⟩
            · exact (((e2.trans e3).trans e4).trans e5).trans (ext_mut (by rw [hD]; trivial))
            · exact ⟨vs ++ [v], upd_same, RDs.mono (ext_mut (by rw [hD]; trivial)) _ _ (rd.app (.one rv))⟩
          · exact z.elim
theorem s_comp {elt it : E} {tg : Tg} {cs : A} {own : List Nat} {ee tg' iter : Expr} {ifs : List Expr} {sc : Scope} {pos : Pos} (hi : PI X tg' iter (rI g T C hx W it)) (h1 : noSet iter = true) (h2 : blkC S.N S.sc sc (ownP S own) = true) (h3 : ∀ i ∈ tgVs tg, i ∈ own)
    (h4 : ckTg (blkS S sc) (some sc) tg tg' = true)
    (ht : ∀ X', CxOk g T n C L hx (fun _ _ _ _ => False) (blkS S sc) X' → PTs X' ifs (rTs g T C hx cs)) (he : ∀ X', CxOk g T n C L hx (fun _ _ _ _ => False) (blkS S sc) X' → PE X' ee (rE g T C hx (fun _ _ _ _ => False) elt)) :
    PE X (.ListComp ee [⟨tg', iter, ifs, 0⟩] sc pos) (rE g T C hx W (.comp elt tg it cs own)) := by
  by_cases hn : hx = none
  · have ok : BlkOk X.N X.env.scope sc (ownP S own) := by
      rw [O.N, O.sc]
      exact blkOk_by h2
    have oe : (ownP S own).map (·.2) = own := by
      unfold ownP
      rw [List.map_map]
      exact List.map_id' own
    refine PE.weak (pe_lc (O.calm hn) O.nd hi ok (fun s H A0 cl fp => g_any (blk_ok O hn) (O.calm hn) (fun x hx' => ?_) h4) (fun s H A0 cl fp => ht _ (blk_ok O hn)) (fun s H A0 cl fp => he _ (blk_ok O hn)) (noSet_fold h1)) fun σ H Q h => ?_
    · unfold stB at hx'
      rw [Bool.and_eq_true] at hx'
      refine ⟨(blk_ok O hn).loc hx'.1, ?_⟩
      have q := hx'.2
      dsimp only at q
      split at q
      · rename_i e
        refine .inr ?_
        show (relS sc X.env.scope).names.lookup x = some .local
        rw [O.sc]
        exact e
      · split at q
        · rename_i e
          refine .inl ?_
          show (sc.names.lookup x == some .cell) = true
          rw [e]
          rfl
        · cases q
    · rw [oe]
      exact comp_wt O h3 h
  · exact ⟨fun pins s σ H Q I ⟨_, _, _, _, _, h, _⟩ => absurd h hn⟩
theorem dcomp_wt {kx vx it : E} {tg : Tg} {cs : A} {own : List Nat} (h3 : ∀ i ∈ tgVs tg, i ∈ own) {σ : L2.St} {H : Hp} {Q : VK} (h : rE g T C hx W (.dcomp kx vx tg it cs own) σ H Q) :
    L2.tDc (rI g T C hx W it) (rG g tg) (rTs g T C hx cs) (rE g T C hx (fun _ _ _ _ => False) kx) (rE g T C hx (fun _ _ _ _ => False) vx) own σ H Q := by
  obtain ⟨m, env, st, SR_, ER_, hn0, h⟩ := h
  have cn := O.cxn hn0
  refine ⟨m, env, st, SR_, ER_, wpI_mono O.MC it env st _ _ _ _ (fun j s1 ⟨k, hc⟩ m1 H1 J0 e1 S1 jr D nD => ?_) (fun _ _ z => z) h⟩
  refine ⟨fun i k H2 => ∃ m2 st2, Ext m1 m2 H1 H2 ∧ SR g m2 H2 st2 ∧ m2 s1.length = some D ∧ dcmN j tg (fun e s P => wpTs T C hx cs e s P) (fun e s P => wpE T C hx kx e s P (fun _ _ => False)) (fun e s P => wpE T C hx vx e s P (fun _ _ => False)) s1.length (Wn g m H Q) k i (wipeE env own) st2, ⟨k, put m1 s1.length D, s1 ++ [.dic []], ext_new nD (put_mm S1), S1.alloc (o := .dic []) nD rfl ⟨[], upd_same, .nil⟩, put_same, hc⟩, ?_⟩
  rintro i k H2 ⟨m2, st2, e2, S2, mD, hc⟩
  cases k with
  | zero => exact hc.elim
  | succ k =>
    unfold dcmN at hc
    have E0 : ER g m2 H2 (wipe σ own) (wipeE env own) := (ER_.mono (e1.trans e2)).wipe cn own
    obtain ⟨j1, j2⟩ := jr m2 H2 st2 i e2 S2
    split at hc
    · exact hc.elim
    · rename_i ea
      exact .inl ⟨j1 ea, hc m2 H2 (.ref D) (e1.trans e2) S2 ⟨D, rfl, mD⟩⟩
    · rename_i d ea
      obtain ⟨go, jy⟩ := j2 d ea
      split at hc
      · exact hc.elim
      · rename_i env' eb
        refine .inr ⟨go, _, fun H' z => ⟨k, Nat.lt_succ_self k, z⟩, fun x H3 yl => ?_⟩
        obtain ⟨e3, S3, rx⟩ := jy x H3 yl
        refine ⟨m2, _, env', d, E0.mono e3, rx, eb, fun σ' E3 hw => ⟨(hw own h3).trans (wipe_wipe _ _ fun _ z => z), m2, env', st2, S3, E3, ?_⟩⟩
        refine wpTs_mono O.MC cs env' st2 _ _ (fun b st4 z m4 H4 e4 S4 => ?_) hc
        cases b with
        | false =>
          rw [if_neg Bool.false_ne_true] at z ⊢
          exact ⟨m4, st4, (e2.trans e3).trans e4, S4, e4.mm _ _ mD, z⟩
        | true =>
          rw [if_pos rfl] at z ⊢
          refine ⟨m4, env', st4, S4, E3.mono e4, wpE_mono O.MC kx env' st4 _ _ _ _ (fun x st5 z m5 H5 v e5 S5 rx => ?_) (fun _ _ z => z.elim) z⟩
          refine ⟨m5, env', st5, S5, E3.mono (e4.trans e5), wpE_mono O.MC vx env' st5 _ _ _ _ (fun y st6 z m6 H6 w e6 S6 ry => ?_) (fun _ _ z => z.elim) z⟩
          split at z
          · rename_i kvs el
            have mD6 := e6.mm _ _ (e5.mm _ _ (e4.mm _ _ mD))
            obtain ⟨ps, hD, rk⟩ := S6.get mD6 el
            obtain ⟨kk, rfl⟩ := key_cases z.1
            refine ⟨ps, kk, key_flat (RD.mono e6 _ _ rx), hD, by rw [← Paired.length rk]; exact z.2.1, m6, _, ?_, S6.write mD6 el rfl rfl ?_, mD6, z.2.2⟩
            · exact ((((e2.trans e3).trans e4).trans e5).trans e6).trans (ext_mut (by rw [hD]; trivial))
            · exact ⟨_, upd_same, (rk_put ry rk).mono (ext_mut (by rw [hD]; trivial))⟩
          · exact z.elim
theorem blk_sto (hn : hx = none) {sc : Scope} {cl : List (Str × Addr)} {A0 : Addr} {s : Shared} {H : Hp} {fp : List Addr} {x : Str} (hx' : stB (blkS S sc) (some sc) x = true) : stoB (X.blk s H sc (compEnvC sc cl A0 X.env) fp) x := by
  unfold stB at hx'
  rw [Bool.and_eq_true] at hx'
  refine ⟨(blk_ok O hn).loc hx'.1, ?_⟩
  have q := hx'.2
  dsimp only at q
  split at q
  · rename_i e
    refine .inr ?_
    show (relS sc X.env.scope).names.lookup x = some .local
    rw [O.sc]
    exact e
  · split at q
    · rename_i e
      refine .inl ?_
      show (sc.names.lookup x == some .cell) = true
      rw [e]
      rfl
    · cases q
theorem own_ix {own : List Nat} : (ownP S own).map (·.2) = own := by
  unfold ownP
  rw [List.map_map]
  exact List.map_id' own
theorem s_dcomp {kx vx it : E} {tg : Tg} {cs : A} {own : List Nat} {ek ev tg' iter : Expr} {ifs : List Expr} {sc : Scope} {pos : Pos} (hi : PI X tg' iter (rI g T C hx W it)) (h1 : noSet iter = true) (h2 : blkC S.N S.sc sc (ownP S own) = true) (h3 : ∀ i ∈ tgVs tg, i ∈ own)
    (h4 : ckTg (blkS S sc) (some sc) tg tg' = true)
    (ht : ∀ X', CxOk g T n C L hx (fun _ _ _ _ => False) (blkS S sc) X' → PTs X' ifs (rTs g T C hx cs)) (hk : ∀ X', CxOk g T n C L hx (fun _ _ _ _ => False) (blkS S sc) X' → PE X' ek (rE g T C hx (fun _ _ _ _ => False) kx)) (hv : ∀ X', CxOk g T n C L hx (fun _ _ _ _ => False) (blkS S sc) X' → PE X' ev (rE g T C hx (fun _ _ _ _ => False) vx)) :
    PE X (.DictComp ek ev [⟨tg', iter, ifs, 0⟩] sc pos) (rE g T C hx W (.dcomp kx vx tg it cs own)) := by
  by_cases hn : hx = none
  · have ok : BlkOk X.N X.env.scope sc (ownP S own) := by
      rw [O.N, O.sc]
      exact blkOk_by h2
    refine PE.weak (L2.pe_dc (O.calm hn) O.nd hi ok (fun s H A0 cl fp => g_any (blk_ok O hn) (O.calm hn) (fun x hx' => blk_sto O hn hx') h4) (fun s H A0 cl fp => ht _ (blk_ok O hn)) (fun s H A0 cl fp => hk _ (blk_ok O hn)) (fun s H A0 cl fp => hv _ (blk_ok O hn)) (noSet_fold h1)) fun σ H Q h => ?_
    rw [own_ix O]
    exact dcomp_wt O h3 h
  · exact ⟨fun pins s σ H Q I ⟨_, _, _, _, _, h, _⟩ => absurd h hn⟩
theorem s_setLc {elt it : E} {tg : Tg} {cs : A} {own : List Nat} {ee tg' iter : Expr} {ifs : List Expr} {sc : Scope} {pos spos py : Pos} {i : Nat} {y : Str} (hn : hx = none) (hc : X.calm = true) (hy : X.N[i]? = some y) (hyl : X.env.scope.names.lookup y = some .local)
    (hsw : swapsWith (.ListComp ee [⟨tg', iter, ifs, 0⟩] sc pos) (some (.Name y py)) spos.line X.env = pure true)
    (hi : PI X tg' iter (rI g T C hx W it)) (h1 : noSet iter = true) (h2 : blkC S.N S.sc sc (ownP S own) = true) (h3 : ∀ i ∈ tgVs tg, i ∈ own)
    (h4 : ckTg (blkS S sc) (some sc) tg tg' = true)
    (ht : ∀ X', CxOk g T n C L hx (fun _ _ _ _ => False) (blkS S sc) X' → PTs X' ifs (rTs g T C hx cs)) (he : ∀ X', CxOk g T n C L hx (fun _ _ _ _ => False) (blkS S sc) X' → PE X' ee (rE g T C hx (fun _ _ _ _ => False) elt)) :
    PS X (.Assign [.Name y py] (.ListComp ee [⟨tg', iter, ifs, 0⟩] sc pos) spos) (tAsg (rE g T C hx W (.comp elt tg it cs own)) (gName i)) := by
  have ok : BlkOk X.N X.env.scope sc (ownP S own) := by
    rw [O.N, O.sc]
    exact blkOk_by h2
  refine PS.weak (ps_setLc hc O.nd hy hyl hsw hi ok (fun s H A0 cl fp => g_any (blk_ok O hn) hc (fun x hx' => blk_sto O hn hx') h4) (fun s H A0 cl fp => ht _ (blk_ok O hn)) (fun s H A0 cl fp => he _ (blk_ok O hn)) (noSet_fold h1)) fun D σ H h => ?_
  rw [own_ix O]
  exact comp_wt O h3 h
end
end
end Y
set_option linter.all false
set_option maxHeartbeats 4000000
set_option maxRecDepth 100000
namespace Y
open PySem PySem.Spec PyProof.Rows L2 RZ
section
variable {g : G} {T : Tab} {n : Nm} {C : Calls} {L : Nat} {hx : Option Exc}
theorem pe_false {X : Cx} {e : Expr} {t : TE} (h : ∀ σ H Q, ¬ t σ H Q) : PE X e t := ⟨fun pins s σ H Q I q => (h _ _ _ q).elim⟩
theorem pt_false {X : Cx} {e : Expr} {t : TT} (h : ∀ σ H Q, ¬ t σ H Q) : PT X e t := ⟨fun pins s σ H Q I q => (h _ _ _ q).elim⟩
theorem pw_false {X : Cx} {e : Expr} {t : TT} (h : ∀ σ H Q, ¬ t σ H Q) : PW X e t := ⟨fun wh pins s σ H Q I q => (h _ _ _ q).elim⟩
theorem pi_false {X : Cx} {tg e : Expr} {t : TI} (h : ∀ σ H Q, ¬ t σ H Q) : PI X tg e t := ⟨fun pins s σ H Q I q => (h _ _ _ q).elim⟩
theorem and2 {a b : Bool} (h : (a && b) = true) : a = true ∧ b = true := by rwa [Bool.and_eq_true] at h
def isBo : Expr → Bool
  | .BoolOp .. => true
  | _ => false
theorem bad_E {W : WX} : ∀ σ H Q, ¬ rE g T C hx W .bad σ H Q := fun _ _ _ ⟨_, _, _, _, _, h⟩ => h
theorem bad_T {W : WX} : ∀ σ H Q, ¬ rT g T C hx W .bad σ H Q := fun _ _ _ ⟨_, _, _, _, _, h⟩ => h
theorem bad_I {W : WX} : ∀ σ H R, ¬ rI g T C hx W .bad σ H R := fun _ _ _ ⟨_, _, _, _, _, h⟩ => h
mutual
theorem snd_E : ∀ (e : E) {W : WX} {S : Sta} {X : Cx} {ex : Expr}, CxOk g T n C L hx W S X → ckE n e S ex = true → PE X ex (rE g T C hx W e)
  | .var i, W, S, X, ex, O, h => by
    unfold ckE at h
    split at h
    · obtain ⟨h, h3⟩ := and2 h
      obtain ⟨h1, h2⟩ := and2 h
      exact s_var O (of_decide_eq_true h1) h2 h3
    · cases h
  | .con d, W, S, X, ex, O, h => by
    unfold ckE at h
    split at h
    · exact s_con O h
    · cases h
  | .glo k, W, S, X, ex, O, h => by
    unfold ckE at h
    split at h
    · obtain ⟨h, h3⟩ := and2 h
      obtain ⟨h1, h2⟩ := and2 h
      exact s_glo O (of_decide_eq_true h1) h2 h3
    · cases h
  | .bin o a b, W, S, X, ex, O, h => by
    unfold ckE at h
    split at h
    · obtain ⟨h, h3⟩ := and2 h
      obtain ⟨h1, h2⟩ := and2 h
      exact s_bin O h1 (snd_E a O h2) (snd_E b O h3)
    · cases h
  | .neg a, W, S, X, ex, O, h => by
    unfold ckE at h
    split at h
    · exact s_neg O (snd_E a O h)
    · cases h
  | .cmp o a b, W, S, X, ex, O, h => by
    unfold ckE at h
    split at h
    · obtain ⟨h, h4⟩ := and2 h
      obtain ⟨h, h3⟩ := and2 h
      obtain ⟨h1, h2⟩ := and2 h
      exact s_cmp O h1 h2 (snd_E a O h3) (snd_E b O h4)
    · cases h
  | .chain o o' a b c, W, S, X, ex, O, h => by
    unfold ckE at h
    split at h
    · obtain ⟨h, h6⟩ := and2 h
      obtain ⟨h, h5⟩ := and2 h
      obtain ⟨h, h4⟩ := and2 h
      obtain ⟨h, h3⟩ := and2 h
      obtain ⟨h1, h2⟩ := and2 h
      exact s_chain O h1 h2 h3 (snd_E a O h4) (snd_E b O h5) (snd_E c O h6)
    · cases h
  | .isN a, W, S, X, ex, O, h => by
    unfold ckE at h
    split at h
    · exact s_isN O (snd_E a O h)
    · cases h
  | .notN a, W, S, X, ex, O, h => by
    unfold ckE at h
    split at h
    · exact s_notN O (snd_E a O h)
    · cases h
  | .and a b, W, S, X, ex, O, h => by
    unfold ckE at h
    split at h
    · rename_i x y r pos
      obtain ⟨h1, h2⟩ := and2 h
      have hb := snd_E b O h2
      refine s_and O (snd_E a O h1) ?_
      cases r with
      | nil => exact pe_one hb
      | cons z r => exact hb
    · cases h
  | .or a b, W, S, X, ex, O, h => by
    unfold ckE at h
    split at h
    · rename_i x y r pos
      obtain ⟨h1, h2⟩ := and2 h
      have hb := snd_E b O h2
      refine s_or O (snd_E a O h1) ?_
      cases r with
      | nil => exact pe_one hb
      | cons z r => exact hb
    · cases h
  | .not a, W, S, X, ex, O, h => by
    unfold ckE at h
    split at h
    · exact s_not O (snd_E a O h)
    · cases h
  | .ife c a b, W, S, X, ex, O, h => by
    unfold ckE at h
    split at h
    · obtain ⟨h, h3⟩ := and2 h
      obtain ⟨h1, h2⟩ := and2 h
      exact s_ife O (snd_T c O h1).1 (snd_E a O h2) (snd_E b O h3)
    · cases h
  | .call f as df, W, S, X, ex, O, h => by
    unfold ckE at h
    split at h
    · obtain ⟨h, h6⟩ := and2 h
      obtain ⟨h, h5⟩ := and2 h
      obtain ⟨h, h4⟩ := and2 h
      obtain ⟨h, h3⟩ := and2 h
      obtain ⟨h1, h2⟩ := and2 h
      refine s_call O (of_decide_eq_true h1) ?_ h3 h4 h5 (nil_of O h6) (snd_A as O h5 h6)
      rcases (Bool.or_eq_true _ _).mp h2 with z | z
      · exact .inl (List.isEmpty_iff.mp z)
      · exact .inr (of_decide_eq_true z)
    · cases h
  | .make c f as, W, S, X, ex, O, h => by
    unfold ckE at h
    split at h
    · obtain ⟨h, h6⟩ := and2 h
      obtain ⟨h, h5⟩ := and2 h
      obtain ⟨h, h4⟩ := and2 h
      obtain ⟨h, h3⟩ := and2 h
      obtain ⟨h1, h2⟩ := and2 h
      exact s_make O (of_decide_eq_true h1) (of_decide_eq_true h2) h3 h4 h5 (nil_of O h6) (snd_A as O h5 h6)
    · cases h
  | .eqo c f a b, W, S, X, ex, O, h => by
    unfold ckE at h
    split at h
    · obtain ⟨h, h4⟩ := and2 h
      obtain ⟨h, h3⟩ := and2 h
      obtain ⟨h1, h2⟩ := and2 h
      exact s_eqo O (of_decide_eq_true h1) h2 (snd_E a O h3) (snd_E b O h4)
    · cases h
  | .meth alts o as, W, S, X, ex, O, h => by
    unfold ckE at h
    split at h
    · obtain ⟨h, h7⟩ := and2 h
      obtain ⟨h, h6⟩ := and2 h
      obtain ⟨h, h5⟩ := and2 h
      obtain ⟨h, h4⟩ := and2 h
      obtain ⟨h, h3⟩ := and2 h
      obtain ⟨h1, h2⟩ := and2 h
      exact s_meth O h1 h2 h3 (of_decide_eq_true h4) h5 (nil_of O h7) (snd_E o O h6) (snd_A as O h5 h7)
    · cases h
  | .fld f o, W, S, X, ex, O, h => by
    unfold ckE at h
    split at h
    · obtain ⟨h, h3⟩ := and2 h
      obtain ⟨h1, h2⟩ := and2 h
      exact s_fld O (of_decide_eq_true h1) h2 (snd_E o O h3)
    · cases h
  | .pr p as, W, S, X, ex, O, h => by
    unfold ckE at h
    split at h
    · obtain ⟨h, h5⟩ := and2 h
      obtain ⟨h, h4⟩ := and2 h
      obtain ⟨h, h3⟩ := and2 h
      obtain ⟨h1, h2⟩ := and2 h
      exact s_pr O (of_decide_eq_true h1) h2 h3 h4 (snd_A as O h4 h5)
    · cases h
  | .me m o as, W, S, X, ex, O, h => by
    unfold ckE at h
    split at h
    · obtain ⟨h, h7⟩ := and2 h
      obtain ⟨h, h6⟩ := and2 h
      obtain ⟨h, h5⟩ := and2 h
      obtain ⟨h, h4⟩ := and2 h
      obtain ⟨h, h3⟩ := and2 h
      obtain ⟨h1, h2⟩ := and2 h
      exact s_me O (of_decide_eq_true h1) h2 h3 (of_decide_eq_true h4) h5 (nil_of O h7) (snd_E o O h6) (snd_A as O h5 h7)
    · cases h
  | .isi a ts, W, S, X, ex, O, h => by
    unfold ckE at h
    split at h
    · obtain ⟨h, h6⟩ := and2 h
      obtain ⟨h, h5⟩ := and2 h
      obtain ⟨h, h3⟩ := and2 h
      obtain ⟨h, h2⟩ := and2 h
      obtain ⟨h1, h1'⟩ := and2 h
      split at h6
      · exact s_isi1 O (of_decide_eq_true h1) h1' h3 h6 (snd_E a O h5)
      · split at h6
        · obtain ⟨h6, h7⟩ := and2 h6
          obtain ⟨h6, h8⟩ := and2 h6
          obtain ⟨h9, h10⟩ := and2 h8
          exact s_isiT O (of_decide_eq_true h1) h1' h3 (of_decide_eq_true h9) h7 (of_decide_eq_true h10) (snd_E a O h5)
        · cases h6
    · cases h
  | .idx a b, W, S, X, ex, O, h => by
    unfold ckE at h
    split at h
    · obtain ⟨h, h3⟩ := and2 h
      obtain ⟨h1, h2⟩ := and2 h
      exact s_idx O h1 (snd_E a O h2) (snd_E b O h3)
    · cases h
  | .sli a lo hi, W, S, X, ex, O, h => by
    unfold ckE at h
    split at h
    · obtain ⟨h, h3⟩ := and2 h
      obtain ⟨h1, h2⟩ := and2 h
      refine s_sli O (snd_E a O h1) ?_ ?_
      · split at h2
        · exact o_some O (snd_E lo O h2)
        · split at h2
          · exact o_none O
          · cases h2
      · split at h3
        · exact o_some O (snd_E hi O h3)
        · split at h3
          · exact o_none O
          · cases h3
    · cases h
  | .abs0, W, S, X, ex, O, h => by
    unfold ckE at h
    cases h
  | .tup as, W, S, X, ex, O, h => by
    unfold ckE at h
    split at h
    · obtain ⟨h, h3⟩ := and2 h
      obtain ⟨h1, h2⟩ := and2 h
      exact s_tup O h3 (of_decide_eq_true h2) (snd_A as O h1 h3)
    · cases h
  | .lst as, W, S, X, ex, O, h => by
    unfold ckE at h
    split at h
    · obtain ⟨h, h3⟩ := and2 h
      obtain ⟨h1, h2⟩ := and2 h
      exact s_lst O h3 (of_decide_eq_true h2) (snd_A as O h1 h3)
    · cases h
  | .comp elt tg it cs own, W, S, X, ex, O, h => by
    unfold ckE at h
    split at h
    · obtain ⟨h, h8⟩ := and2 h
      obtain ⟨h, h7⟩ := and2 h
      obtain ⟨h, h6⟩ := and2 h
      obtain ⟨h, h5⟩ := and2 h
      obtain ⟨h, h4⟩ := and2 h
      obtain ⟨h, h3⟩ := and2 h
      obtain ⟨h1, h2⟩ := and2 h
      exact s_comp O (snd_I it O h1) h2 h3 (fun i m => by simpa using List.all_eq_true.mp h6 i m) h5 (fun X' O' => snd_Ts cs O' h8) (fun X' O' => snd_E elt O' h7)
    · cases h
  | .fstr as, W, S, X, ex, O, h => by
    unfold ckE at h
    split at h
    · exact s_fstr O (snd_F as O h)
    · cases h
  | .bad, W, S, X, ex, O, h => pe_false bad_E
  | .dic as, W, S, X, ex, O, h => by
    unfold ckE at h
    split at h
    · obtain ⟨h1, h2⟩ := and2 h
      exact s_dic O (snd_D as O h2) (of_decide_eq_true h1)
    · cases h
  | .dcomp kx vx tg it cs own, W, S, X, ex, O, h => by
    unfold ckE at h
    split at h
    · obtain ⟨h, k9⟩ := and2 h
      obtain ⟨h, k8⟩ := and2 h
      obtain ⟨h, k7⟩ := and2 h
      obtain ⟨h, k6⟩ := and2 h
      obtain ⟨h, k5⟩ := and2 h
      obtain ⟨h, k4⟩ := and2 h
      obtain ⟨h, k3⟩ := and2 h
      obtain ⟨k1, k2⟩ := and2 h
      exact s_dcomp O (snd_I it O k1) k2 k3 (fun i m => by simpa using List.all_eq_true.mp k6 i m) k5 (fun X' O' => snd_Ts cs O' k9) (fun X' O' => snd_E kx O' k7) (fun X' O' => snd_E vx O' k8)
    · cases h
  | .rng1 _, _, _, _, _, _, h => by unfold ckE at h; cases h
  | .rng2 _ _, _, _, _, _, _, h => by unfold ckE at h; cases h
  | .enm _, _, _, _, _, _, h => by unfold ckE at h; cases h
  | .rev _, _, _, _, _, _, h => by unfold ckE at h; cases h
  | .rvl a, W, S, X, ex, O, h => by
    unfold ckE at h
    split at h
    · exact s_rvl O (snd_E a O h)
    · cases h
  | .zip _ _, _, _, _, _, _, h => by unfold ckE at h; cases h
  | .tv _, _, _, _, _, _, h => by unfold ckE at h; cases h
  | .sq _, _, _, _, _, _, h => by unfold ckE at h; cases h
  | .efld f, W, S, X, ex, O, h => by
    unfold ckE at h
    split at h
    · split at h
      · rename_i i q
        obtain ⟨h, k5⟩ := and2 h
        obtain ⟨h, k4⟩ := and2 h
        obtain ⟨h, k3⟩ := and2 h
        obtain ⟨k1, k2⟩ := and2 h
        exact s_efld O q (of_decide_eq_true k1) (of_decide_eq_true k2) k3 k4 k5
      · cases h
    · cases h
  | .eisi cs, W, S, X, ex, O, h => by
    unfold ckE at h
    split at h
    · obtain ⟨h, h6⟩ := and2 h
      obtain ⟨h, h5⟩ := and2 h
      obtain ⟨h, h4⟩ := and2 h
      obtain ⟨h, h3⟩ := and2 h
      obtain ⟨h1, h2⟩ := and2 h
      split at h5
      · rename_i i q
        obtain ⟨h5, k3⟩ := and2 h5
        obtain ⟨k1, k2⟩ := and2 h5
        split at h6
        · exact s_eisi1 O q (of_decide_eq_true h1) h2 h4 (of_decide_eq_true k1) k2 k3 h6
        · split at h6
          · obtain ⟨h6, h7⟩ := and2 h6
            obtain ⟨h8, h9⟩ := and2 h6
            obtain ⟨h9, h10⟩ := and2 h9
            exact s_eisiT O q (of_decide_eq_true h1) h2 h4 (of_decide_eq_true k1) k2 k3 (of_decide_eq_true h9) h7 (of_decide_eq_true h10)
          · cases h6
      · cases h5
    · cases h
theorem snd_T : ∀ (e : E) {W : WX} {S : Sta} {X : Cx} {ex : Expr}, CxOk g T n C L hx W S X → ckT n e S ex = true → PT X ex (rT g T C hx W e) ∧ (isBo ex = true → PW X ex (rT g T C hx W e))
  | .cmp o a b, W, S, X, ex, O, h => by
    unfold ckT at h
    split at h
    · obtain ⟨h, h4⟩ := and2 h
      obtain ⟨h, h3⟩ := and2 h
      obtain ⟨h1, h2⟩ := and2 h
      exact ⟨t_cmp O h1 h2 (snd_E a O h3) (snd_E b O h4), fun z => by cases z⟩
    · cases h
  | .chain o o' a b c, W, S, X, ex, O, h => by
    unfold ckT at h
    split at h
    · obtain ⟨h, h6⟩ := and2 h
      obtain ⟨h, h5⟩ := and2 h
      obtain ⟨h, h4⟩ := and2 h
      obtain ⟨h, h3⟩ := and2 h
      obtain ⟨h1, h2⟩ := and2 h
      exact ⟨t_chain O h1 h2 h3 (snd_E a O h4) (snd_E b O h5) (snd_E c O h6), fun z => by cases z⟩
    · cases h
  | .isN a, W, S, X, ex, O, h => by
    unfold ckT at h
    split at h
    · exact ⟨t_isN O (snd_E a O h), fun z => by cases z⟩
    · cases h
  | .notN a, W, S, X, ex, O, h => by
    unfold ckT at h
    split at h
    · exact ⟨t_notN O (snd_E a O h), fun z => by cases z⟩
    · cases h
  | .and a b, W, S, X, ex, O, h => by
    unfold ckT at h
    split at h
    · rename_i x y r pos
      obtain ⟨h1, h2⟩ := and2 h
      have hb := snd_T b O h2
      have q : PW X (.BoolOp .And (x :: y :: r) pos) (rT g T C hx W (.and a b)) := by
        refine w_and O (snd_T a O h1).1 ?_
        cases r with
        | nil => exact pw_and1 hb.1
        | cons z r => exact hb.2 rfl
      exact ⟨q.pt, fun _ => q⟩
    · cases h
  | .or a b, W, S, X, ex, O, h => by
    unfold ckT at h
    split at h
    · rename_i x y r pos
      obtain ⟨h1, h2⟩ := and2 h
      have hb := snd_T b O h2
      have q : PW X (.BoolOp .Or (x :: y :: r) pos) (rT g T C hx W (.or a b)) := by
        refine w_or O (snd_T a O h1).1 ?_
        cases r with
        | nil => exact pw_or1 hb.1
        | cons z r => exact hb.2 rfl
      exact ⟨q.pt, fun _ => q⟩
    · cases h
  | .not a, W, S, X, ex, O, h => by
    unfold ckT at h
    split at h
    · exact ⟨t_not O (snd_T a O h).1, fun z => by cases z⟩
    · cases h
  | .tv a, W, S, X, ex, O, h => by
    unfold ckT at h
    obtain ⟨h1, h2⟩ := and2 h
    refine ⟨t_tv O h1 (snd_E a O h2), fun z => ?_⟩
    cases ex <;> first | cases z; done | cases h1
  | .bad, W, S, X, ex, O, h => ⟨pt_false bad_T, fun _ => pw_false bad_T⟩
  | .var _, _, _, _, _, _, h => by unfold ckT at h; cases h
  | .con _, _, _, _, _, _, h => by unfold ckT at h; cases h
  | .glo _, _, _, _, _, _, h => by unfold ckT at h; cases h
  | .bin _ _ _, _, _, _, _, _, h => by unfold ckT at h; cases h
  | .neg _, _, _, _, _, _, h => by unfold ckT at h; cases h
  | .ife _ _ _, _, _, _, _, _, h => by unfold ckT at h; cases h
  | .call _ _ _, _, _, _, _, _, h => by unfold ckT at h; cases h
  | .make _ _ _, _, _, _, _, _, h => by unfold ckT at h; cases h
  | .meth _ _ _, _, _, _, _, _, h => by unfold ckT at h; cases h
  | .eqo _ _ _ _, _, _, _, _, _, h => by unfold ckT at h; cases h
  | .fld _ _, _, _, _, _, _, h => by unfold ckT at h; cases h
  | .pr _ _, _, _, _, _, _, h => by unfold ckT at h; cases h
  | .me _ _ _, _, _, _, _, _, h => by unfold ckT at h; cases h
  | .isi _ _, _, _, _, _, _, h => by unfold ckT at h; cases h
  | .idx _ _, _, _, _, _, _, h => by unfold ckT at h; cases h
  | .sli _ _ _, _, _, _, _, _, h => by unfold ckT at h; cases h
  | .abs0, _, _, _, _, _, h => by unfold ckT at h; cases h
  | .tup _, _, _, _, _, _, h => by unfold ckT at h; cases h
  | .lst _, _, _, _, _, _, h => by unfold ckT at h; cases h
  | .dic _, _, _, _, _, _, h => by unfold ckT at h; cases h
  | .comp _ _ _ _ _, _, _, _, _, _, h => by unfold ckT at h; cases h
  | .dcomp _ _ _ _ _ _, _, _, _, _, _, h => by unfold ckT at h; cases h
  | .fstr _, _, _, _, _, _, h => by unfold ckT at h; cases h
  | .rng1 _, _, _, _, _, _, h => by unfold ckT at h; cases h
  | .rng2 _ _, _, _, _, _, _, h => by unfold ckT at h; cases h
  | .enm _, _, _, _, _, _, h => by unfold ckT at h; cases h
  | .rev _, _, _, _, _, _, h => by unfold ckT at h; cases h
  | .rvl _, _, _, _, _, _, h => by unfold ckT at h; cases h
  | .zip _ _, _, _, _, _, _, h => by unfold ckT at h; cases h
  | .sq _, _, _, _, _, _, h => by unfold ckT at h; cases h
  | .efld _, _, _, _, _, _, h => by unfold ckT at h; cases h
  | .eisi _, _, _, _, _, _, h => by unfold ckT at h; cases h
theorem snd_A : ∀ (as : A) {W : WX} {S : Sta} {X : Cx} {es : List Expr}, CxOk g T n C L hx W S X → noStars es = true → ckA n as S es = true → PA X es (rA g T C hx W as)
  | .nil, W, S, X, es, O, ns, h => by
    unfold ckA at h
    split at h
    · exact a_nil O
    · cases h
  | .cons e as, W, S, X, es, O, ns, h => by
    unfold ckA at h
    split at h
    · obtain ⟨h1, h2⟩ := and2 h
      obtain ⟨n1, n2⟩ := and2 ns
      exact a_cons O n1 (snd_E e O h1) (snd_A as O n2 h2)
    · cases h
theorem snd_D : ∀ (as : A) {W : WX} {S : Sta} {X : Cx} {ks : List (Option Expr)} {vs : List Expr}, CxOk g T n C L hx W S X → ckD n as S ks vs = true → QD X (rE g T C hx W) ks vs as
  | .nil, W, S, X, ks, vs, O, h => by
    unfold ckD at h
    split at h
    · exact .nil
    · cases h
  | .cons _ .nil, W, S, X, ks, vs, O, h => by
    unfold ckD at h
    cases h
  | .cons k (.cons v as), W, S, X, ks, vs, O, h => by
    unfold ckD at h
    split at h
    · obtain ⟨h, h3⟩ := and2 h
      obtain ⟨h1, h2⟩ := and2 h
      exact .cons (snd_E k O h1) (snd_E v O h2) (snd_D as O h3)
    · cases h
theorem snd_F : ∀ (as : A) {W : WX} {S : Sta} {X : Cx} {es : List Expr}, CxOk g T n C L hx W S X → ckF n as S es = true → QF X (rE g T C hx W) es as
  | .nil, W, S, X, es, O, h => by
    unfold ckF at h
    split at h
    · exact .nil
    · cases h
  | .cons e as, W, S, X, es, O, h => by
    unfold ckF at h
    split at h
    · obtain ⟨h1, h2⟩ := and2 h
      exact .fmt (snd_E e O h1) (snd_F as O h2)
    · obtain ⟨h1, h2⟩ := and2 h
      split at h1
      · obtain ⟨h1, _⟩ := and2 h1
        rw [of_decide_eq_true h1]
        exact .con (snd_F as O h2)
      · cases h1
    · cases h
theorem snd_Ts : ∀ (as : A) {S : Sta} {X : Cx} {es : List Expr}, CxOk g T n C L hx (fun _ _ _ _ => False) S X → ckTs n as S es = true → PTs X es (rTs g T C hx as)
  | .nil, S, X, es, O, h => by
    unfold ckTs at h
    split at h
    · exact ⟨fun pins s σ H Q I ⟨m, env, st, a, b, c⟩ => pts_nil.run pins s σ H Q I (c m H (.refl _ _) a)⟩
    · cases h
  | .cons e .nil, S, X, es, O, h => by
    unfold ckTs at h
    split at h
    · obtain ⟨h1, _⟩ := and2 h
      have q := pts_one (snd_T e O h1).1
      exact ⟨fun pins s σ H Q I ⟨m, env, st, a, b, c⟩ => q.run pins s σ H Q I ⟨m, env, st, a, b, wpT_mono O.MC e env st _ _ _ _ (fun _ _ z => z) (fun _ _ z => z.elim) c⟩⟩
    · cases h
  | .cons e (.cons _ _), S, X, es, O, h => ⟨fun pins s σ H Q I ⟨_, _, _, _, _, z⟩ => z.elim⟩
theorem snd_I : ∀ (e : E) {W : WX} {S : Sta} {X : Cx} {tg ex : Expr}, CxOk g T n C L hx W S X → ckI n e S tg ex = true → PI X tg ex (rI g T C hx W e)
  | .rng1 a, W, S, X, tg, ex, O, h => by
    unfold ckI at h
    split at h
    · obtain ⟨h, h5⟩ := and2 h
      obtain ⟨h, h4⟩ := and2 h
      obtain ⟨h, h3⟩ := and2 h
      obtain ⟨h1, h2⟩ := and2 h
      exact i_rng1 O (of_decide_eq_true h1) h2 h4 (snd_E a O h5)
    · cases h
  | .rng2 a b, W, S, X, tg, ex, O, h => by
    unfold ckI at h
    split at h
    · obtain ⟨h, h7⟩ := and2 h
      obtain ⟨h, h6⟩ := and2 h
      obtain ⟨h, h5⟩ := and2 h
      obtain ⟨h, h4⟩ := and2 h
      obtain ⟨h, h3⟩ := and2 h
      obtain ⟨h1, h2⟩ := and2 h
      exact i_rng2 O (of_decide_eq_true h1) h2 h4 h5 (snd_E a O h6) (snd_E b O h7)
    · cases h
  | .enm a, W, S, X, tg, ex, O, h => by
    unfold ckI at h
    split at h
    · obtain ⟨h, h5⟩ := and2 h
      obtain ⟨h, h4⟩ := and2 h
      obtain ⟨h, h3⟩ := and2 h
      obtain ⟨h1, h2⟩ := and2 h
      exact i_enm O (of_decide_eq_true h1) h2 h4 (snd_E a O h5)
    · cases h
  | .zip a b, W, S, X, tg, ex, O, h => by
    unfold ckI at h
    split at h
    · obtain ⟨h, h7⟩ := and2 h
      obtain ⟨h, h6⟩ := and2 h
      obtain ⟨h, h5⟩ := and2 h
      obtain ⟨h, h4⟩ := and2 h
      obtain ⟨h, h3⟩ := and2 h
      obtain ⟨h1, h2⟩ := and2 h
      exact i_zip O (of_decide_eq_true h1) h2 h4 h5 (snd_E a O h6) (snd_E b O h7)
    · cases h
  | .sq a, W, S, X, tg, ex, O, h => by
    unfold ckI at h
    exact i_sq O (snd_E a O h)
  | .bad, W, S, X, tg, ex, O, h => pi_false bad_I
  | .var _, _, _, _, _, _, _, h => by unfold ckI at h; cases h
  | .con _, _, _, _, _, _, _, h => by unfold ckI at h; cases h
  | .glo _, _, _, _, _, _, _, h => by unfold ckI at h; cases h
  | .bin _ _ _, _, _, _, _, _, _, h => by unfold ckI at h; cases h
  | .neg _, _, _, _, _, _, _, h => by unfold ckI at h; cases h
  | .cmp _ _ _, _, _, _, _, _, _, h => by unfold ckI at h; cases h
  | .chain _ _ _ _ _, _, _, _, _, _, _, h => by unfold ckI at h; cases h
  | .isN _, _, _, _, _, _, _, h => by unfold ckI at h; cases h
  | .rvl _, _, _, _, _, _, _, h => by unfold ckI at h; cases h
  | .rev a, W, S, X, tg, ex, O, h => by
    unfold ckI at h
    split at h
    · obtain ⟨h, h5⟩ := and2 h
      obtain ⟨h, h4⟩ := and2 h
      obtain ⟨h, h3⟩ := and2 h
      obtain ⟨h1, h2⟩ := and2 h
      exact i_rev O (of_decide_eq_true h1) h2 h4 (snd_E a O h5)
    · cases h
  | .notN _, _, _, _, _, _, _, h => by unfold ckI at h; cases h
  | .and _ _, _, _, _, _, _, _, h => by unfold ckI at h; cases h
  | .or _ _, _, _, _, _, _, _, h => by unfold ckI at h; cases h
  | .not _, _, _, _, _, _, _, h => by unfold ckI at h; cases h
  | .tv _, _, _, _, _, _, _, h => by unfold ckI at h; cases h
  | .ife _ _ _, _, _, _, _, _, _, h => by unfold ckI at h; cases h
  | .call _ _ _, _, _, _, _, _, _, h => by unfold ckI at h; cases h
  | .make _ _ _, _, _, _, _, _, _, h => by unfold ckI at h; cases h
  | .meth _ _ _, _, _, _, _, _, _, h => by unfold ckI at h; cases h
  | .eqo _ _ _ _, _, _, _, _, _, _, h => by unfold ckI at h; cases h
  | .fld _ _, _, _, _, _, _, _, h => by unfold ckI at h; cases h
  | .pr _ _, _, _, _, _, _, _, h => by unfold ckI at h; cases h
  | .me _ _ _, _, _, _, _, _, _, h => by unfold ckI at h; cases h
  | .isi _ _, _, _, _, _, _, _, h => by unfold ckI at h; cases h
  | .idx _ _, _, _, _, _, _, _, h => by unfold ckI at h; cases h
  | .sli _ _ _, _, _, _, _, _, _, h => by unfold ckI at h; cases h
  | .abs0, _, _, _, _, _, _, h => by unfold ckI at h; cases h
  | .tup _, _, _, _, _, _, _, h => by unfold ckI at h; cases h
  | .lst _, _, _, _, _, _, _, h => by unfold ckI at h; cases h
  | .dic _, _, _, _, _, _, _, h => by unfold ckI at h; cases h
  | .comp _ _ _ _ _, _, _, _, _, _, _, h => by unfold ckI at h; cases h
  | .dcomp _ _ _ _ _ _, _, _, _, _, _, _, h => by unfold ckI at h; cases h
  | .fstr _, _, _, _, _, _, _, h => by unfold ckI at h; cases h
  | .efld _, _, _, _, _, _, _, h => by unfold ckI at h; cases h
  | .eisi _, _, _, _, _, _, _, h => by unfold ckI at h; cases h
end
end
end Y
set_option linter.all false
set_option maxHeartbeats 4000000
set_option maxRecDepth 100000
namespace Y
open PySem PySem.Spec PyProof.Rows L2 RZ
def noComp : Expr → Bool
  | .ListComp .. => false | .SetComp .. => false | .DictComp .. => false
  | _ => true
def isLc : Expr → Bool
  | .ListComp .. => true
  | _ => false
def noTupE : Expr → Bool
  | .Tuple .. => false
  | _ => true
def asgB : Expr → Expr → Bool
  | .Name _ _, ex => noComp ex || isLc ex
  | .Tuple .., ex => noTupE ex && noComp ex
  | _, _ => false
def loB (S : Sta) (x : Str) : Bool := match S.sc.names.lookup x with
  | some .local => true
  | _ => false
def ckR (n : Nm) : A → Sta → List Expr → Bool
  | .nil, _, [] => true
  | .cons e .nil, S, [ea] => ckE n e S ea
  | _, _, _ => false
def adB : Op → Bool
  | .add => true | .sub => true
  | _ => false
mutual
def ckS (n : Nm) : S → Sta → Stmt → Bool
  | .asg tg e, S, st => (match st with
    | .Assign [t] ex _ => ckTg S none tg t && asgB t ex && ckE n e S ex
    | _ => false)
  | .asg2 i j a b, S, st => (match st with
    | .Assign [.Tuple [.Name x px, .Name y py] _ _] (.Tuple [ea, eb] _ _) _ => decide (S.N[i]? = some x) && decide (S.N[j]? = some y) && decide (i ≠ j) && loB S x && loB S y && (py.line == px.line) && !(x == y) && noStars [ea, eb] &&
      !([ea, eb].all (foldedForSure 8)) && !([ea, eb].all (constantsAlone 8)) && ckE n a S ea && ckE n b S eb
    | _ => false)
  | .setf o f e, S, st => (match st with
    | .Assign [.Attribute eo x _] ex _ => decide (n.fd f = some x) && ckE n o S eo && ckE n e S ex
    | _ => false)
  | .seti o i e, S, st => (match st with
    | .Assign [.Subscript eo ei _] ex _ => ixB ei && ckE n o S eo && ckE n i S ei && ckE n e S ex
    | _ => false)
  | .augn i op e, S, st => (match st with
    | .AugAssign (.Name x _) eop ex _ => decide (S.en ≠ some i) && decide (S.N[i]? = some x) && locB S x && opB op eop && adB op && ckE n e S ex
    | _ => false)
  | .augf o f op e, S, st => (match st with
    | .AugAssign (.Attribute eo x _) eop ex _ => decide (n.fd f = some x) && opB op eop && adB op && ckE n o S eo && ckE n e S ex
    | _ => false)
  | .exp e, S, st => (match st with
    | .Expr ex _ => noComp ex && ckE n e S ex
    | _ => false)
  | .ret e, S, st => (match st with
    | .Return (some ex) _ => ckE n e S ex
    | _ => false)
  | .retN, S, st => (match st with
    | .Return none _ => true
    | _ => false)
  | .ifS c a b, S, st => (match st with
    | .If ec sa sb _ => ckT n c S ec && ckB n a S sa && ckB n b S sb
    | _ => false)
  | .forS tg it b, S, st => (match st with
    | .For t iter body [] _ => ckTg S none tg t && ckI n it S t iter && noSet iter && ckB n b S body
    | _ => false)
  | .whl c b, S, st => (match st with
    | .While ec body [] _ => ckT n c S ec && ckB n b S body
    | _ => false)
  | .brk, S, st => (match st with
    | .Break _ => true
    | _ => false)
  | .cnt, S, st => (match st with
    | .Continue _ => true
    | _ => false)
  | .pas, S, st => (match st with
    | .Pass _ => true
    | _ => false)
  | .rais c as, S, st => (match st with
    | .Raise (some (.Call (.Name x _) args [] _)) none _ => decide (n.ex c = some x) && gloB S x && okN x && noStars args && ckR n as S args
    | _ => false)
  | .tryS b hs, S, st => (match st with
    | .Try body (h0 :: hds) [] [] _ => ckB n b S body && ckH n hs S (h0 :: hds)
    | _ => false)
  | .bad, _, _ => true
  | .del _ _, _, _ => false
def ckB (n : Nm) : B → Sta → List Stmt → Bool
  | .nil, _, l => (match l with
    | [] => true
    | _ => false)
  | .cons s b, S, l => (match l with
    | x :: r => ckS n s S x && ckB n b S r
    | _ => false)
def ckH (n : Nm) : Hs → Sta → List ExceptHandler → Bool
  | .nil, _, l => (match l with
    | [] => true
    | _ => false)
  | .cons c nm b hs, S, l => (match l with
    | .ExceptHandler (some (.Name x _)) none (b0 :: suite) _ :: r => decide (n.ex c = some x) && gloB S x && okN x && (match nm with
      | none => true
      | some _ => false) && ckB n b S (b0 :: suite) && ckH n hs S r
    | .ExceptHandler (some (.Name x _)) (some y) (b0 :: suite) _ :: r => decide (n.ex c = some x) && gloB S x && okN x && (match nm with
      | none => false
      | some i => decide (S.N[i]? = some y) && loB S y) && ckB n b ⟨S.N, S.sc, nm⟩ (b0 :: suite) && ckH n hs S r
    | _ => false)
end
structure CxS (g : G) (T : Tab) (n : Nm) (C : Calls) (L : Nat) (hx : Option Exc) (W : WX) (S : Sta) (X : Cx) : Prop where
  ok : CxOk g T n C L hx W S X
  fn : ∀ x, X.fn x = true
  kind : X.env.scope.kind = .function
  own : hx = none → PassesOwn (model X.prog X.w) X.A X.env X.xe
  stk : X.stack = X.env :: X.outer
  frm : X.env.frame = some X.env.locals
def kEnd (g : G) (m : Mp) (H : Hp) (W : WX) (D : Ends) : K where
  nx e s := ∀ m' H' σ', Ext m m' H H' → SR g m' H' s → ER g m' H' σ' e → D.nx σ' H'
  rt d s := ∀ m' H' v, Ext m m' H H' → SR g m' H' s → RD g m' H' d v → D.rt v H'
  bk e s := ∀ m' H' σ', Ext m m' H H' → SR g m' H' s → ER g m' H' σ' e → D.bk σ' H'
  ct e s := ∀ m' H' σ', Ext m m' H H' → SR g m' H' s → ER g m' H' σ' e → D.ct σ' H'
  xc x e s := ∀ m' H' σ' cls dx, Ext m m' H H' → SR g m' H' s → ER g m' H' σ' e → RX g m' H' x cls dx → W cls dx σ' H'
theorem kEnd_ext {g : G} {m m' : Mp} {H H' : Hp} {W : WX} {D : Ends} (e : Ext m m' H H') : (kEnd g m H W D).Le (kEnd g m' H' W D) :=
  ⟨fun _ _ z m2 H2 σ e2 => z m2 H2 σ (e.trans e2), fun _ _ z m2 H2 v e2 => z m2 H2 v (e.trans e2), fun _ _ z m2 H2 σ e2 => z m2 H2 σ (e.trans e2), fun _ _ z m2 H2 σ e2 => z m2 H2 σ (e.trans e2), fun _ _ _ z m2 H2 σ c d e2 => z m2 H2 σ c d (e.trans e2)⟩
def rS (g : G) (T : Tab) (C : Calls) (hx : Option Exc) (W : WX) (s : S) : TS := fun D σ H => ∃ (m : Mp) (env : Env) (st : Store), SR g m H st ∧ ER g m H σ env ∧ wpS T C hx s env st (kEnd g m H W D)
def rB (g : G) (T : Tab) (C : Calls) (hx : Option Exc) (W : WX) (b : B) : TS := fun D σ H => ∃ (m : Mp) (env : Env) (st : Store), SR g m H st ∧ ER g m H σ env ∧ wpB T C hx b env st (kEnd g m H W D)
section
variable {g : G} {T : Tab} {n : Nm} {C : Calls} {L : Nat} {hx : Option Exc} {W : WX} {S : Sta} {X : Cx}
theorem tg_nm {tg : Tg} {x : Str} {p : Pos} (h : ckTg S none tg (.Name x p) = true) : ∃ i, tg = .nm i ∧ S.N[i]? = some x ∧ stB S none x = true := by
  cases tg with
  | nm i =>
    have h : (decide (S.N[i]? = some x) && stB S none x) = true := (and2 h).2
    rw [Bool.and_eq_true] at h
    exact ⟨i, rfl, of_decide_eq_true h.1, h.2⟩
  | tp is => exact absurd (show false = true from (and2 h).2) Bool.false_ne_true
theorem ps_false {s : Stmt} {t : TS} (h : ∀ D σ H, ¬ t D σ H) : PS X s t := ⟨fun pins s σ H D I q => (h _ _ _ q).elim⟩
theorem lc_of {e : E} {S : Sta} {ee : Expr} {gs : List Comprehension} {sc : Scope} {pos : Pos} (h : ckE n e S (.ListComp ee gs sc pos) = true) : (∃ elt tg it cs own, e = .comp elt tg it cs own) ∨ e = .bad := by
  cases e <;> first
    | exact .inl ⟨_, _, _, _, _, rfl⟩
    | exact .inr rfl
    | (unfold ckE at h; cases h)
section
variable (O : CxS g T n C L hx W S X)
include O
theorem sto {x : Str} (h : stB S none x = true) : stoB X x := by
  unfold stB at h
  rw [Bool.and_eq_true] at h
  exact ⟨O.ok.loc h.1, .inl (O.fn x)⟩
theorem xk {m : Mp} {H : Hp} {σ : L2.St} {env : Env} {D : Ends} (E1 : ER g m H σ env) {x : Exc} {s : Store} (z : (kEnd g m H W D).xc x env s) : Wx g m H (WE W σ) x s := fun m2 H2 cls dx e2 S2 r2 => z m2 H2 σ cls dx e2 S2 (E1.mono e2) r2
theorem go_S {e : E} {σ : L2.St} {H : Hp} {m : Mp} {env : Env} {st : Store} {Q : VK} {D : Ends} {R : QE} (SR_ : SR g m H st) (ER_ : ER g m H σ env) (h : wpE T C hx e env st R fun x s => (kEnd g m H W D).xc x env s)
    (k : ∀ d s m' H' v, Ext m m' H H' → SR g m' H' s → ER g m' H' σ env → RD g m' H' d v → R d s → Q v H') : rE g T C hx W e σ H Q :=
  go_E O.ok SR_ ER_ (wpE_mono O.ok.MC e env st _ _ _ _ (fun _ _ z => z) (fun _ _ z => xk O ER_ z) h) k
theorem x_S {e : E} {H H' : Hp} {m m' : Mp} {env : Env} {st : Store} {D : Ends} {R : QE} (e1 : Ext m m' H H') (h : wpE T C hx e env st R fun x s => (kEnd g m H W D).xc x env s) : wpE T C hx e env st R fun x s => (kEnd g m' H' W D).xc x env s :=
  wpE_mono O.ok.MC e env st _ _ _ _ (fun _ _ z => z) (fun _ _ z => (kEnd_ext e1).xc _ _ _ z) h
theorem asg_wt {tg : Tg} {e : E} {D : Ends} {σ : L2.St} {H : Hp} (h : rS g T C hx W (.asg tg e) D σ H) : tAsg (rE g T C hx W e) (rG g tg) D σ H := by
  obtain ⟨m, env, st, SR_, ER_, h⟩ := h
  refine go_S O SR_ ER_ h.2 fun d s m1 H1 v e1 S1 E1 r1 z => ?_
  split at z
  · rename_i env' eb
    exact ⟨m1, env, env', d, E1, r1, eb, fun σ' E2 _ => z m1 H1 σ' e1 S1 E2⟩
  · exact z.elim
theorem no_sw {ex : Expr} {t : Option Expr} {l : Nat} (h : noComp ex = true) : swapsWith ex t l X.env = pure false := by
  cases ex <;> first | rfl | cases h
theorem lc_sw {ee : Expr} {gs : List Comprehension} {sc : Scope} {pos py : Pos} {y : Str} {l : Nat} : (X.env.scope.names.lookup y = some .local ∧ swapsWith (.ListComp ee gs sc pos) (some (.Name y py)) l X.env = pure true) ∨ swapsWith (.ListComp ee gs sc pos) (some (.Name y py)) l X.env = pure false := by
  have hb : X.env.blockKind = .function := by unfold PySem.Env.blockKind; rw [O.kind]; rfl
  have q : swapsWith (.ListComp ee gs sc pos) (some (.Name y py)) l X.env = pure (X.env.kindOf y == some .local && py.line == pos.line && !(sc.names.any fun (n, k) => n == y && (k == .local || k == .cell))) := by
    unfold swapsWith
    simp only [hb, Expr.pos]
    rfl
  rw [q]
  by_cases z : X.env.kindOf y = some .local
  · cases (X.env.kindOf y == some .local && py.line == pos.line && !(sc.names.any fun (n, k) => n == y && (k == .local || k == .cell))) with
    | true => exact .inl ⟨z, rfl⟩
    | false => exact .inr rfl
  · have z2 : (X.env.kindOf y == some .local) = false := by
      cases hk : X.env.kindOf y with
      | none => rfl
      | some k =>
        cases k <;> first | rfl | exact absurd hk z
    rw [z2]
    exact .inr rfl
theorem g_asg {tg : Tg} {t : Expr} (h : ckTg S none tg t = true) (hn : ∀ is, tg = .tp is → hx = none) : PG X t (rG g tg) := by
  cases tg with
  | nm i =>
    have hf := List.all_eq_true.mp (and2 h).1
    replace h := (and2 h).2
    unfold ckTg0 at h
    split at h
    · rename_i x p e
      cases e
      rw [Bool.and_eq_true] at h
      refine g_name (O.ok.free (of_decide_eq_true (hf _ List.mem_cons_self))) O.ok.nd ?_ (sto O h.2)
      rw [O.ok.N]
      exact of_decide_eq_true h.1
    · rename_i e
      cases e
    · cases h
  | tp is => exact g_any O.ok (O.ok.calm (hn is rfl)) (fun x => sto O) h
theorem st_asg {tg : Tg} {e : E} {t ex : Expr} {pos : Pos} (h1 : ckTg S none tg t = true) (h2 : asgB t ex = true) (h3 : ckE n e S ex = true) : PS X (.Assign [t] ex pos) (rS g T C hx W (.asg tg e)) := by
  have he := snd_E e O.ok h3
  by_cases hn : ∀ is, tg = .tp is → hx = none
  · have hg := g_asg O h1 hn
    cases t with
    | Name x p =>
      cases hc : noComp ex with
      | true => exact PS.weak (ps_asg he hg (no_sw O (t := some (.Name x p)) (l := pos.line) hc) rfl rfl) fun D σ H h => asg_wt O h
      | false =>
        have h2 : (noComp ex || isLc ex) = true := h2
        rw [hc, Bool.false_or] at h2
        cases ex with
        | ListComp ee gs sc lpos =>
          rcases lc_sw O (ee := ee) (gs := gs) (sc := sc) (pos := lpos) (py := p) (y := x) (l := pos.line) with ⟨hl, sw⟩ | sw
          · rcases lc_of h3 with ⟨elt, tg2, it, cs, own, rfl⟩ | rfl
            · by_cases hn2 : hx = none
              · have h30 := h3
                unfold ckE at h3
                split at h3
                · rename_i e1
                  cases e1
                  obtain ⟨h, k8⟩ := and2 h3
                  obtain ⟨h, k7⟩ := and2 h
                  obtain ⟨h, k6⟩ := and2 h
                  obtain ⟨h, k5⟩ := and2 h
                  obtain ⟨h, k4⟩ := and2 h
                  obtain ⟨h, k3⟩ := and2 h
                  obtain ⟨k1, k2⟩ := and2 h
                  obtain ⟨i, rfl, i1, i2⟩ := tg_nm h1
                  refine PS.weak (s_setLc O.ok hn2 (O.ok.calm hn2) (i := i) (by rw [O.ok.N]; exact i1) hl sw (snd_I it O.ok k1) k2 k3 (fun i m => by simpa using List.all_eq_true.mp k6 i m) k5 (fun X' O' => snd_Ts cs O' k8) (fun X' O' => snd_E elt O' k7)) fun D σ H h => ?_
                  obtain ⟨m, env, st, SR_, ER_, h⟩ := h
                  refine go_S O SR_ ER_ h.2 fun d s m1 H1 v e1 S1 E1 r1 z => ?_
                  exact z m1 H1 _ e1 S1 (E1.set i (.of (O.ok.cxn hn2) i) r1)
                · cases h3
              · exact ps_false fun D σ H ⟨m, env, st, _, _, _, h⟩ => hn2 h.1
            · exact ps_false fun D σ H ⟨m, env, st, _, _, _, h⟩ => h
          · exact PS.weak (ps_asg he hg sw rfl rfl) fun D σ H h => asg_wt O h
        | _ => cases h2
    | Tuple es k p =>
      have h2 : (noTupE ex && noComp ex) = true := h2
      obtain ⟨h2, hc⟩ := and2 h2
      refine PS.weak (ps_asg he hg (no_sw O (t := some (.Tuple es k p)) (l := pos.line) hc) ?_ rfl) fun D σ H h => asg_wt O h
      cases ex <;> first | rfl | cases h2
    | _ => cases h2
  · refine ps_false fun D σ H ⟨m, env, st, _, _, h⟩ => hn fun is e => ?_
    subst e
    exact h.1
theorem sw_pair {x y : Str} {px py pt : Pos} {ea eb : Expr} {kt k2 : Nat} {pt2 : Pos} (hx' : X.env.scope.names.lookup x = some .local) (hy : X.env.scope.names.lookup y = some .local) (hl : (py.line == px.line) = true) (hne : (x == y) = false) (hs : noStars [ea, eb] = true)
    (h1 : ([ea, eb].all (foldedForSure 8)) = false) (h2 : ([ea, eb].all (constantsAlone 8)) = false) : swappedStores [.Tuple [.Name x px, .Name y py] kt pt] (.Tuple [ea, eb] k2 pt2) X.env = pure (some [x, y]) := by
  have hb : X.env.blockKind = .function := by unfold PySem.Env.blockKind; rw [O.kind]; rfl
  have kx : X.env.kindOf x = some .local := hx'
  have ky : X.env.kindOf y = some .local := hy
  obtain ⟨s1, s2⟩ := and2 (show (noStar ea && noStars [eb]) = true from hs)
  obtain ⟨s2, _⟩ := and2 (show (noStar eb && true) = true from s2)
  have st : ([ea, eb].any fun | .Starred .. => true | _ => false) = false := by
    cases ea <;> first
      | (cases s1; done)
      | (cases eb <;> first | rfl | (cases s2; done))
  have ed : ([x, y] : List Str).eraseDups.length = 2 := by
    have e : ([x, y] : List Str).eraseDups = [x, y] := by
      have yx : (y == x) = false := by
        apply Bool.eq_false_iff.mpr
        intro z
        rw [eq_of_beq z] at hne
        simp at hne
      simp [List.eraseDups_cons, yx]
    rw [e]
    rfl
  have le : py.line = px.line := eq_of_beq hl
  unfold swappedStores
  dsimp only [Expr.pos, List.head?, Option.map, Option.getD, List.length_cons, List.length_nil]
  refine (if_neg ?_).trans ?_
  · rw [hb]; decide
  refine (if_neg (fun z => Bool.false_ne_true (st.symm.trans z))).trans ?_
  rw [h1, h2]
  simp only [List.filterMap_cons, List.filterMap_nil, kx, ky, le, BEq.rfl, Bool.and_self, if_true, ed]
  rfl
theorem st_asg2 {i j : Nat} {a b : E} {x y : Str} {px py pt : Pos} {ea eb : Expr} {kt k2 : Nat} {pt2 pos : Pos} (h1 : S.N[i]? = some x) (h2 : S.N[j]? = some y) (h3 : i ≠ j) (h4 : loB S x = true) (h5 : loB S y = true) (h6 : (py.line == px.line) = true) (h7 : (x == y) = false)
    (h8 : noStars [ea, eb] = true) (h9 : ([ea, eb].all (foldedForSure 8)) = false) (h10 : ([ea, eb].all (constantsAlone 8)) = false) (ha : PE X ea (rE g T C hx W a)) (hb : PE X eb (rE g T C hx W b)) :
    PS X (.Assign [.Tuple [.Name x px, .Name y py] kt pt] (.Tuple [ea, eb] k2 pt2) pos) (rS g T C hx W (.asg2 i j a b)) := by
  by_cases hn : hx = none
  · have lo : ∀ z, loB S z = true → X.env.scope.names.lookup z = some .local := fun z hz => by
      unfold loB at hz
      rw [O.ok.sc]
      split at hz
      · assumption
      · cases hz
    obtain ⟨s1, s2⟩ := and2 (show (noStar ea && noStars [eb]) = true from h8)
    obtain ⟨s2, _⟩ := and2 (show (noStar eb && true) = true from s2)
    refine PS.weak (ps_par (O.ok.calm hn) O.ok.nd (by rw [O.ok.N]; exact h1) (by rw [O.ok.N]; exact h2) h3 (lo x h4) (lo y h5) (a_cons O.ok s1 ha (a_cons O.ok s2 hb (a_nil O.ok))) (sw_pair O (lo x h4) (lo y h5) h6 h7 h8 h9 h10) rfl) fun D σ H ⟨m, env, st, SR_, ER_, _, h⟩ => ?_
    refine go_A O.ok SR_ ER_ (R := fun ds s1 => ∃ x y, ds = [x, y] ∧ (kEnd g m H W D).nx ((env.set i (some x)).set j (some y)) s1) (wpE_mono O.ok.MC a env st _ _ _ _ (fun d s z => wpE_mono O.ok.MC b env s _ _ _ _ (fun d2 s z => ⟨d, d2, rfl, z⟩) (fun _ _ z => xk O ER_ z) z) (fun _ _ z => xk O ER_ z) h) fun ds s1 m1 H1 vs e1 S1 E1 r1 ⟨dx, dy, ex, z⟩ => ?_
    subst ex
    obtain ⟨v, w, rfl, rv, rw'⟩ := r1.two
    exact ⟨v, w, rfl, z m1 H1 _ e1 S1 ((E1.set i (.of (O.ok.cxn hn) i) rv).set j (.of (O.ok.cxn hn) j) rw')⟩
  · exact ps_false fun D σ H ⟨m, env, st, _, _, h, _⟩ => hn h
theorem fld_set {m : Mp} {H : Hp} {st : Store} {d dv : D} {v y : V} {f : Nat} {x : Str} {σ : L2.St} {env : Env} {R : Hp → Prop} (hf : n.fd f = some x) (S1 : SR g m H st) (r : RD g m H d v) (ry : RD g m H dv y)
    (h : setfQ st d f dv fun s => ∀ m' H', Ext m m' H H' → SR g m' H' s → R H') : ∃ a c dx fs, v = .ref a ∧ H a = some (.ins (g.ca c) dx fs) ∧ clsOf st d = some c ∧ Cls X.K (g.ca c) ∧ NoAttr X.K (g.ca c) x ∧ fs.length < 1000 ∧ R (upd H a (.ins (g.ca c) dx (L2.putF x y fs))) := by
  unfold setfQ at h
  split at h
  · split at h
    · rename_i c fs e0
      obtain ⟨a, rfl, ea⟩ := rd_ref r
      obtain ⟨dx, vs, hH, rf, okc⟩ := S1.get ea e0
      have okc0 := okc
      rw [O.ok.top.okc] at okc
      obtain ⟨nm, hy⟩ := Option.isSome_iff_exists.mp okc
      have cl := (O.ok.top.cl c nm hy).2.cl
      have na := O.ok.top.noat c nm f x hy hf
      rw [← O.ok.K] at cl na
      have len : vs.length = fs.length := (Paired.length rf).symm
      have rf2 : RF g m H (putF f dv fs) (L2.putF x y vs) := by
        have nmi := O.ok.F.nmi
        have hf' : g.nm f = some x := by rw [O.ok.top.nm]; exact hf
        clear hH e0 h len
        induction rf with
        | nil => exact .cons ⟨hf', ry⟩ .nil
        | @cons p q ps qs hp t ih =>
          obtain ⟨w, u⟩ := q
          obtain ⟨k, e⟩ := p
          unfold putF L2.putF
          by_cases z : k = f
          · subst z
            have e2 : w = x := Option.some.inj (hp.1.symm.trans hf')
            subst e2
            rw [if_pos rfl, if_pos rfl]
            exact .cons ⟨hf', ry⟩ t
          · have ne : w ≠ x := fun e2 => z (nmi k f x (by rw [← e2]; exact hp.1) hf')
            rw [if_neg z, if_neg ne]
            exact .cons hp ih
      have e1 : Ext m m H (upd H a (.ins (g.ca c) dx (L2.putF x y vs))) := ext_mut (by rw [hH]; trivial)
      exact ⟨a, c, dx, vs, rfl, hH, by unfold clsOf; dsimp only; rw [e0], cl, na, by rw [len]; exact h.1, h.2 m _ e1 (S1.write (o' := .ins c (putF f dv fs)) ea e0 rfl rfl ⟨dx, _, upd_same, rf2.mono e1, okc0⟩)⟩
    · exact h.elim
  · exact h.elim
theorem st_setf {o e : E} {f : Nat} {eo ex : Expr} {x : Str} {p pos : Pos} (h1 : n.fd f = some x) (ho : PE X eo (rE g T C hx W o)) (he : PE X ex (rE g T C hx W e)) : PS X (.Assign [.Attribute eo x p] ex pos) (rS g T C hx W (.setf o f e)) := by
  refine PS.weak (ps_fld ho he (by cases ex <;> rfl)) fun D σ H ⟨m, env, st, SR_, ER_, h⟩ => ?_
  refine go_S O SR_ ER_ h fun d s1 m1 H1 y e1 S1 E1 r1 z => ?_
  refine go_S O S1 E1 (x_S O e1 z) fun d2 s2 m2 H2 v e2 S2 E2 r2 z => ?_
  obtain ⟨a, c, dx, fs, q1, q2, _, q3, q4, q5, q6⟩ := fld_set O (σ := σ) (env := env) (R := fun H => D.nx σ H) h1 S2 r2 (RD.mono e2 _ _ r1) (setfQ_mono (fun s z m3 H3 e3 S3 => z m3 H3 σ ((e1.trans e2).trans e3) S3 (E2.mono e3)) z)
  exact ⟨a, _, dx, fs, q1, q2, q3, q4, q5, q6⟩
theorem st_seti {o i e : E} {eo ei ex : Expr} {p pos : Pos} (h1 : ixB ei = true) (ho : PE X eo (rE g T C hx W o)) (hi : PE X ei (rE g T C hx W i)) (he : PE X ex (rE g T C hx W e)) : PS X (.Assign [.Subscript eo ei p] ex pos) (rS g T C hx W (.seti o i e)) := by
  have ha : ∀ v, assign (.Subscript eo ei p) X.env v = (do
      let ov ← holding [v] (eval eo X.env)
      let iv ← holding [v, ov] (eval ei X.env)
      standAt p
      holding [v, ov, iv] (setItem ov iv v)
      release [v, ov, iv] []) := by
    intro v
    cases ei <;> first | rfl | cases h1
  refine PS.weak (ps_asg he (pg_sub ho hi (set_any (g := g) (by have := O.ok.hu; omega)) ha) (by cases ex <;> rfl) rfl rfl) fun D σ H ⟨m, env, st, SR_, ER_, h⟩ => ?_
  refine go_S O SR_ ER_ h fun d s1 m1 H1 y e1 S1 E1 r1 z => ?_
  show rE g T C hx W o σ H1 _
  refine go_S O S1 E1 (x_S O e1 z) fun d2 s2 m2 H2 v e2 S2 E2 r2 z => ?_
  refine go_S O S2 E2 (x_S O (e1.trans e2) z) fun d3 s3 m3 H3 w e3 S3 E3 r3 z => ?_
  exact ⟨m3, s3, d2, d3, d, S3, RD.mono e3 _ _ r2, r3, RD.mono (e2.trans e3) _ _ r1, setQ_mono (fun s z m4 H4 e4 S4 => z m4 H4 σ (((e1.trans e2).trans e3).trans e4) S4 (E3.mono e4)) z⟩
theorem st_augn {i : Nat} {op : Op} {e : E} {x : Str} {eop : Operator} {ex : Expr} {p pos : Pos} (h0 : S.en ≠ some i) (h1 : S.N[i]? = some x) (h2 : locB S x = true) (h3 : opB op eop = true) (h4 : adB op = true) (he : PE X ex (rE g T C hx W e)) : PS X (.AugAssign (.Name x p) eop ex pos) (rS g T C hx W (.augn i op e)) := by
  have nx : X.N[i]? = some x := by rw [O.ok.N]; exact h1
  cases op with
  | add =>
    cases opB_ok h3
    refine PS.weak (ps_aug O.ok.nd nx (O.ok.loc h2) he ip_add (.inl (O.fn x))) fun De σ H ⟨m, env, st, SR_, ER_, h⟩ => ?_
    unfold wpS at h
    unfold getV at h
    split at h
    · rename_i d ed
      obtain ⟨v, e2, rv⟩ := ER_.at_ i d ed
      refine ⟨v, e2, ?_⟩
      refine go_S O SR_ ER_ h fun d2 s1 m1 H1 y e1 S1 E1 r1 z => ?_
      split at z
      · cases rd_int rv
        cases rd_int r1
        exact ⟨_, _, rfl, rfl, z m1 H1 _ e1 S1 (E1.set i (O.ok.free h0) rfl)⟩
      · contradiction
      · exact z.elim
    · exact h.elim
  | sub =>
    cases opB_ok h3
    refine PS.weak (ps_aug O.ok.nd nx (O.ok.loc h2) he ip_sub (.inl (O.fn x))) fun De σ H ⟨m, env, st, SR_, ER_, h⟩ => ?_
    unfold wpS at h
    unfold getV at h
    split at h
    · rename_i d ed
      obtain ⟨v, e2, rv⟩ := ER_.at_ i d ed
      refine ⟨v, e2, ?_⟩
      refine go_S O SR_ ER_ h fun d2 s1 m1 H1 y e1 S1 E1 r1 z => ?_
      split at z
      · contradiction
      · cases rd_int rv
        cases rd_int r1
        exact ⟨_, _, rfl, rfl, z m1 H1 _ e1 S1 (E1.set i (O.ok.free h0) rfl)⟩
      · exact z.elim
    · exact h.elim
  | _ => cases h4
theorem st_augf {o e : E} {f : Nat} {op : Op} {eo ex : Expr} {x : Str} {eop : Operator} {p pos : Pos} (h1 : n.fd f = some x) (h3 : opB op eop = true) (h4 : adB op = true) (ho : PE X eo (rE g T C hx W o)) (he : PE X ex (rE g T C hx W e)) : PS X (.AugAssign (.Attribute eo x p) eop ex pos) (rS g T C hx W (.augf o f op e)) := by
  cases op with
  | add =>
    cases opB_ok h3
    refine PS.weak (ps_fldaug ho he in_add) fun De σ H ⟨m, env, st, SR_, ER_, h⟩ => ?_
    refine go_S O SR_ ER_ h fun d s1 m1 H1 v e1 S1 E1 r1 z => ?_
    obtain ⟨a, c, dx, fs, v', dv, q1, q2, qc, q3, q4, q5, q6, q7⟩ := fld_get O.ok h1 S1 r1 z
    subst q1
    refine ⟨a, _, dx, fs, v', rfl, q2, q3, q4, q5, ?_⟩
    show rE g T C hx W e σ H1 _
    refine go_S O S1 E1 (x_S O e1 q7) fun d2 s2 m2 H2 y e2 S2 E2 r2 z => ?_
    have q6 := RD.mono e2 _ _ q6
    split at z
    · cases rd_int q6
      cases rd_int r2
      refine ⟨_, _, rfl, rfl, ?_⟩
      obtain ⟨a', c', dx', fs', p1, p2, p3, _, _, p5, p6⟩ := fld_set O (σ := σ) (env := env) (R := fun H => De.nx σ H) h1 S2 (RD.mono e2 _ _ r1) (show RD g m2 H2 (.int _) (.int _) from rfl) (setfQ_mono (fun s z m3 H3 e3 S3 => z m3 H3 σ ((e1.trans e2).trans e3) S3 (E2.mono e3)) z.2)
      cases p1
      have ce : c' = c := by
        have z1 := z.1
        rw [p3, qc] at z1
        exact Option.some.inj z1
      subst ce
      exact ⟨dx', fs', p2, p5, p6⟩
    · contradiction
    · exact z.elim
  | sub =>
    cases opB_ok h3
    refine PS.weak (ps_fldaug ho he in_sub) fun De σ H ⟨m, env, st, SR_, ER_, h⟩ => ?_
    refine go_S O SR_ ER_ h fun d s1 m1 H1 v e1 S1 E1 r1 z => ?_
    obtain ⟨a, c, dx, fs, v', dv, q1, q2, qc, q3, q4, q5, q6, q7⟩ := fld_get O.ok h1 S1 r1 z
    subst q1
    refine ⟨a, _, dx, fs, v', rfl, q2, q3, q4, q5, ?_⟩
    show rE g T C hx W e σ H1 _
    refine go_S O S1 E1 (x_S O e1 q7) fun d2 s2 m2 H2 y e2 S2 E2 r2 z => ?_
    have q6 := RD.mono e2 _ _ q6
    split at z
    · contradiction
    · cases rd_int q6
      cases rd_int r2
      refine ⟨_, _, rfl, rfl, ?_⟩
      obtain ⟨a', c', dx', fs', p1, p2, p3, _, _, p5, p6⟩ := fld_set O (σ := σ) (env := env) (R := fun H => De.nx σ H) h1 S2 (RD.mono e2 _ _ r1) (show RD g m2 H2 (.int _) (.int _) from rfl) (setfQ_mono (fun s z m3 H3 e3 S3 => z m3 H3 σ ((e1.trans e2).trans e3) S3 (E2.mono e3)) z.2)
      cases p1
      have ce : c' = c := by
        have z1 := z.1
        rw [p3, qc] at z1
        exact Option.some.inj z1
      subst ce
      exact ⟨dx', fs', p2, p5, p6⟩
    · exact z.elim
  | _ => cases h4
end
end
end Y
set_option linter.all false
set_option maxHeartbeats 4000000
set_option maxRecDepth 100000
namespace Y
open PySem PySem.Spec PyProof.Rows L2 RZ
section
variable {g : G} {T : Tab} {n : Nm} {C : Calls} {L : Nat} {hx : Option Exc} {W : WX} {S : Sta} {X : Cx}
section
variable (O : CxS g T n C L hx W S X)
include O
theorem st_exp {e : E} {ex : Expr} {pos : Pos} (h : noComp ex = true) (he : PE X ex (rE g T C hx W e)) : PS X (.Expr ex pos) (rS g T C hx W (.exp e)) := by
  refine PS.weak (ps_expr he (no_sw O h)) fun D σ H ⟨m, env, st, SR_, ER_, h⟩ => ?_
  exact go_S O SR_ ER_ h fun d s1 m1 H1 v e1 S1 E1 r1 z => z m1 H1 σ e1 S1 E1
theorem st_ret {e : E} {ex : Expr} {pos : Pos} (he : PE X ex (rE g T C hx W e)) : PS X (.Return (some ex) pos) (rS g T C hx W (.ret e)) := by
  refine PS.weak (ps_ret he) fun D σ H ⟨m, env, st, SR_, ER_, h⟩ => ?_
  exact go_S O SR_ ER_ h fun d s1 m1 H1 v e1 S1 E1 r1 z => z m1 H1 v e1 S1 r1
theorem st_retN {pos : Pos} : PS X (.Return none pos) (rS g T C hx W .retN) :=
  PS.weak ps_retN fun D σ H ⟨m, env, st, SR_, ER_, h⟩ => h m H .non (.refl _ _) SR_ rfl
theorem st_brk {pos : Pos} : PS X (.Break pos) (rS g T C hx W .brk) := PS.weak ps_break fun D σ H ⟨m, env, st, SR_, ER_, h⟩ => h m H σ (.refl _ _) SR_ ER_
theorem st_cnt {pos : Pos} : PS X (.Continue pos) (rS g T C hx W .cnt) := PS.weak ps_continue fun D σ H ⟨m, env, st, SR_, ER_, h⟩ => h m H σ (.refl _ _) SR_ ER_
theorem st_pas {pos : Pos} : PS X (.Pass pos) (rS g T C hx W .pas) := PS.weak ps_pass fun D σ H ⟨m, env, st, SR_, ER_, h⟩ => h m H σ (.refl _ _) SR_ ER_
theorem b_ext {b : B} {env : Env} {st : Store} {m m' : Mp} {H H' : Hp} {De : Ends} (e : Ext m m' H H') (h : wpB T C hx b env st (kEnd g m H W De)) : wpB T C hx b env st (kEnd g m' H' W De) := wpB_mono O.ok.MC b hx env st _ _ (kEnd_ext e) h
theorem go_ST {e : E} {σ : L2.St} {H : Hp} {m : Mp} {env : Env} {st : Store} {Q : Bool → Hp → Prop} {D : Ends} {R : Bool → Store → Prop} (SR_ : SR g m H st) (ER_ : ER g m H σ env) (h : wpT T C hx e env st R fun x s => (kEnd g m H W D).xc x env s)
    (k : ∀ b s m' H', Ext m m' H H' → SR g m' H' s → ER g m' H' σ env → R b s → Q b H') : rT g T C hx W e σ H Q :=
  go_T O.ok SR_ ER_ (wpT_mono O.ok.MC e env st _ _ _ _ (fun _ _ z => z) (fun _ _ z => xk O ER_ z) h) k
theorem st_if {c : E} {a b : B} {ec : Expr} {sa sb : List Stmt} {pos : Pos} (hc : PT X ec (rT g T C hx W c)) (ha : PSs X sa (rB g T C hx W a)) (hb : PSs X sb (rB g T C hx W b)) : PS X (.If ec sa sb pos) (rS g T C hx W (.ifS c a b)) := by
  refine PS.weak (ps_if hc ha hb) fun D σ H ⟨m, env, st, SR_, ER_, h⟩ => ?_
  refine go_ST O SR_ ER_ h fun k s1 m1 H1 e1 S1 E1 z => ?_
  cases k with
  | true =>
    rw [if_pos rfl] at z ⊢
    exact ⟨m1, env, s1, S1, E1, b_ext O e1 z⟩
  | false =>
    rw [if_neg Bool.false_ne_true] at z ⊢
    exact ⟨m1, env, s1, S1, E1, b_ext O e1 z⟩
theorem st_while {c : E} {b : B} {ec : Expr} {body : List Stmt} {pos : Pos} (hc : PT X ec (rT g T C hx W c)) (hb : PSs X body (rB g T C hx W b)) : PS X (.While ec body [] pos) (rS g T C hx W (.whl c b)) := by
  by_cases hn : hx = none
  · refine PS.weak (ps_while (O.own hn) hc hb) fun D σ H ⟨m, env, st, SR_, ER_, _, k, h⟩ => ?_
    refine ⟨fun k σ' H' => ∃ m' env' st', Ext m m' H H' ∧ SR g m' H' st' ∧ ER g m' H' σ' env' ∧ whlN (fun e s P => wpT T C hx c e s P fun x s1 => (kEnd g m H W D).xc x e s1) (fun e s k' => wpB T C hx b e s k') (kEnd g m H W D) k env' st', ⟨k, m, env, st, .refl _ _, SR_, ER_, h⟩, ?_⟩
    rintro k σ' H' ⟨m1, env1, st1, e1, S1, E1, h1⟩
    cases k with
    | zero => exact h1.elim
    | succ k =>
      unfold whlN at h1
      have h1 := wpT_mono O.ok.MC c env1 st1 _ _ _ _ (fun _ _ z => z) (fun _ _ z => (kEnd_ext e1).xc _ _ _ z) h1
      refine go_ST O S1 E1 h1 fun t s2 m2 H2 e2 S2 E2 z => ?_
      cases t with
      | true =>
        rw [if_pos rfl] at z ⊢
        refine ⟨fun σ' H' => ∃ m' env' st', Ext m m' H H' ∧ SR g m' H' st' ∧ ER g m' H' σ' env' ∧ whlN (fun e s P => wpT T C hx c e s P fun x s1 => (kEnd g m H W D).xc x e s1) (fun e s k' => wpB T C hx b e s k') (kEnd g m H W D) k env' st', fun σ' H' z => ⟨k, Nat.lt_succ_self k, z⟩, m2, env1, s2, S2, E2, ?_⟩
        have e12 := e1.trans e2
        refine wpB_mono O.ok.MC b hx env1 s2 _ _ ?_ z
        exact ⟨fun e s z m3 H3 σ3 e3 S3 E3 => ⟨m3, e, s, e12.trans e3, S3, E3, z⟩, (kEnd_ext (W := W) e12).rt, fun e s z m3 H3 σ3 e3 => z m3 H3 σ3 (e12.trans e3), fun e s z m3 H3 σ3 e3 S3 E3 => ⟨m3, e, s, e12.trans e3, S3, E3, z⟩, (kEnd_ext e12).xc⟩
      | false =>
        rw [if_neg Bool.false_ne_true] at z ⊢
        exact z m2 H2 σ' (e1.trans e2) S2 E2
  · exact ps_false fun D σ H ⟨m, env, st, _, _, h, _⟩ => hn h
theorem st_for {tg : Tg} {it : E} {b : B} {t iter : Expr} {body : List Stmt} {pos : Pos} (h1 : ckTg S none tg t = true) (h2 : noSet iter = true) (hi : PI X t iter (rI g T C hx W it)) (hb : PSs X body (rB g T C hx W b)) : PS X (.For t iter body [] pos) (rS g T C hx W (.forS tg it b)) := by
  by_cases hn : hx = none
  · refine PS.weak (ps_for (O.own hn) (O.ok.calm hn) hi (g_asg O h1 fun _ _ => hn) hb (noSet_fold h2)) fun D σ H ⟨m, env, st, SR_, ER_, _, h⟩ => ?_
    refine ⟨m, env, st, SR_, ER_, wpI_mono O.ok.MC it env st _ _ _ _ (fun j s1 ⟨k, hc⟩ m1 H1 J0 e1 S1 jr => ?_) (fun _ _ z => xk O ER_ z) h⟩
    let Inv0 : Nat → Nat → L2.St → Hp → Prop := fun i k σ' H' => ∃ m' env' st', Ext m1 m' H1 H' ∧ SR g m' H' st' ∧ ER g m' H' σ' env' ∧ forN j tg (fun e s k' => wpB T C hx b e s k') (kEnd g m H W D) k i env' st'
    refine ⟨Inv0, ⟨k, m1, env, s1, .refl _ _, S1, ER_.mono e1, hc⟩, ?_⟩
    rintro i k σ' H' ⟨m2, env2, st2, e2, S2, E2, h2⟩
    cases k with
    | zero => exact h2.elim
    | succ k =>
      unfold forN at h2
      obtain ⟨j1, j2⟩ := jr m2 H' st2 i e2 S2
      split at h2
      · exact h2.elim
      · rename_i ea
        exact .inl ⟨j1 ea, h2 m2 H' σ' (e1.trans e2) S2 E2⟩
      · rename_i d ea
        obtain ⟨go, jy⟩ := j2 d ea
        split at h2
        · exact h2.elim
        · rename_i env' eb
          refine .inr ⟨go, Inv0 (i + 1) k, fun σ' H' z => ⟨k, Nat.lt_succ_self k, z⟩, fun x H3 yl => ?_⟩
          obtain ⟨e3, S3, rx⟩ := jy x H3 yl
          refine ⟨m2, env2, env', d, E2.mono e3, rx, eb, fun σ3 E3 _ => ⟨m2, env', st2, S3, E3, ?_⟩⟩
          have e13 := e1.trans (e2.trans e3)
          refine wpB_mono O.ok.MC b hx env' st2 _ _ ?_ h2
          exact ⟨fun e s z m4 H4 σ4 e4 S4 E4 => ⟨m4, e, s, (e2.trans e3).trans e4, S4, E4, z⟩, (kEnd_ext (W := W) e13).rt, fun e s z m4 H4 σ4 e4 => z m4 H4 σ4 (e13.trans e4), fun e s z m4 H4 σ4 e4 S4 E4 => ⟨m4, e, s, (e2.trans e3).trans e4, S4, E4, z⟩, (kEnd_ext e13).xc⟩
  · exact ps_false fun D σ H ⟨m, env, st, _, _, h, _⟩ => hn h
theorem pmk_own0 {A0 : Addr} {bmB : List Value} {B0 newId initId : String} {x : Str} {p pos : Pos} (F : ExcBaseFacts B0 newId initId bmB) (q : PySem.W.excIn X.K A0 bmB newId = true) (gC : X.mg x = some (.ref A0)) (kC : PySem.W.keepIn X.K (.ref A0) = true) (r : Raises X (.ref A0)) (hg : Gl X x)
    (hdb : (x == ("__debug__" : Str)) = false) : PMk X (.Call (.Name x p) [] [] pos) (fun _ H Q => Q (.ref A0) none H) := by
  intro pins s σ H Q I h
  refine wpAny_Call_Name_kw (ld_glob I hg gC ?_ hdb)
  refine PySem.W.callWith_K0 I.kIn kC ?_
  show wpAny _ _ (call (.ref A0) []) _ _ _
  obtain ⟨bm, N, nm, qn, bs, hdct, sn, sub, ab, col, dd, k0, k1, k2, k3, k5, mN, hC, hN, hni, T⟩ := exc_obj I.kIn q
  refine wpAny_call_exc_subT F T hC hN hni (fun h' e hm => ?_) (Nat.zero_le _)
  exact mk_of I hm r h (I.hok.gone hm.new)
theorem st_raise0 {c : Nat} {x : Str} {p pos pos' : Pos} (h1 : n.ex c = some x) (h2 : gloB S x = true) (h3 : okN x = true) : PS X (.Raise (some (.Call (.Name x p) [] [] pos)) none pos') (rS g T C hx W (.rais c .nil)) := by
  by_cases hn : hx = none ∧ T.exf c = some none
  · obtain ⟨⟨bm, F, q⟩, k1, k2, k3⟩ := O.ok.top.ex0 c x h1 hn.2
    rw [← O.ok.K] at q k1 k2 k3
    refine PS.weak (ps_raise (O.ok.calm hn.1) O.ok.tk (pmk_own0 O F q (O.ok.top.exg c x h1) k1 (raises_own k2 k3) (O.ok.gl h2) (okN_1 h3))) fun D σ H ⟨m, env, st, SR_, ER_, _, h⟩ => ?_
    rw [hn.2] at h
    exact h m H σ _ none (.refl _ _) SR_ ER_ ⟨rfl, by rw [O.ok.top.oke, h1]; rfl, .inl ⟨rfl, rfl⟩⟩
  · refine ps_false fun D σ H ⟨m, env, st, _, _, h, h'⟩ => hn ⟨h, ?_⟩
    split at h'
    · assumption
    · rename_i e; cases e
    · exact h'.elim
theorem st_raise1 {c : Nat} {e : E} {ea : Expr} {x : Str} {p pos pos' : Pos} (h1 : n.ex c = some x) (h2 : gloB S x = true) (h3 : okN x = true) (h4 : noStar ea = true) (he : PE X ea (rE g T C hx W e)) : PS X (.Raise (some (.Call (.Name x p) [ea] [] pos)) none pos') (rS g T C hx W (.rais c (.cons e .nil))) := by
  by_cases hn : hx = none ∧ ∃ f, T.exf c = some (some f)
  · obtain ⟨hn, f, ef⟩ := hn
    obtain ⟨y, hy⟩ := Option.isSome_iff_exists.mp ((O.ok.exi hn).fd c x f h1 ef)
    obtain ⟨T0, fI, fd, ps, i1, i2, F, b⟩ := (O.ok.exi hn).ok c x f y h1 ef hy
    rw [← O.ok.K] at T0 i1 i2 F b
    have hL := O.ok.hL
    have hr : Room (1 + 1) X.A := (O.ok.room hn).mono (by omega)
    refine PS.weak (ps_raise (O.ok.calm hn) O.ok.tk (pmk_oex T0 i1 i2 F hr b .nil (fun pins σ H s e s' I c => passes_call (E := fun _ _ _ => False) O.ok.tk (fun _ _ _ _ z => z.elim) pins σ H s e s' I c) (O.ok.gl h2) (O.ok.top.exg c x h1) (a_cons O.ok h4 he (a_nil O.ok)) (okN_1 h3) (star_cons h4) rfl)) fun D σ H ⟨m, env, st, SR_, ER_, _, h⟩ => ?_
    rw [ef] at h
    refine go_A O.ok SR_ ER_ (R := fun ds s1 => ∃ d, ds = [d] ∧ (kEnd g m H W D).xc ⟨c, [(f, d)]⟩ env s1) (wpE_mono O.ok.MC e env st _ _ _ _ (fun d s z => ⟨d, rfl, z⟩) (fun _ _ z => xk O ER_ z) h) fun ds s1 m1 H1 vs e1 S1 E1 r1 ⟨d, ex, z⟩ => ?_
    subst ex
    obtain ⟨v, rfl, rv⟩ := r1.un1
    refine ⟨(by show 1 ≤ 1000; decide), fun a na => ⟨a, v, rfl, upd_same, fun dx nd ne => ⟨rfl, dx, [(y, v)], upd_same, ?_, ?_, ?_⟩⟩⟩
    · rw [upd_ne ne, upd_same]
    · rw [upd_ne ne] at nd
      exact nd
    · rw [upd_ne ne] at nd
      have eH : upd (del (upd (upd (upd H1 a (exo a (g.ca c) none)) dx (exd dx [(y, v)])) a (exo a (g.ca c) (some dx))) a) dx (.xd [(y, v)]) = upd H1 dx (.xd [(y, v)]) := by
        funext q
        by_cases z1 : q = dx
        · subst z1
          rw [upd_same, upd_same]
        · rw [upd_ne z1, upd_ne z1]
          by_cases z2 : q = a
          · subst z2
            rw [del_same, na]
          · rw [del_ne z2, upd_ne z2, upd_ne z1, upd_ne z2]
      rw [eH]
      have e2 : Ext m1 m1 H1 (upd H1 dx (.xd [(y, v)])) := ext_new nd fun _ _ z => z
      exact z m1 _ σ _ (some dx) (e1.trans e2) (S1.fresh nd) (E1.mono e2) ⟨rfl, by rw [O.ok.top.oke, h1]; rfl, .inr ⟨dx, _, rfl, upd_same, .cons ⟨by rw [O.ok.top.nm]; exact hy, RD.mono e2 _ _ rv⟩ .nil, fun z => nomatch z⟩⟩
  · refine ps_false fun D σ H ⟨m, env, st, _, _, h, h'⟩ => hn ⟨h, ?_⟩
    split at h'
    · rename_i e; cases e
    · exact ⟨_, by assumption⟩
    · exact h'.elim
end
end
end Y
set_option linter.all false
set_option maxHeartbeats 4000000
set_option maxRecDepth 100000
namespace Y
open PySem PySem.Spec PyProof.Rows L2
structure Clau where
  cl : Value
  slot : Option Nat
  su : Addr → Value → Option Addr → TS
def unEnds (i : Nat) (D : Ends) : Ends := ⟨fun σ' H' => D.nx (σ'.set i none) H', D.rt, fun σ' H' => D.bk (σ'.set i none) H', fun σ' H' => D.ct (σ'.set i none) H'⟩
def Clau.go (z : Clau) (D : Ends) (a : Addr) (cls : Value) (d : Option Addr) (σ : L2.St) (H : Hp) : Prop := match z.slot with
  | none => z.su a cls d D σ H
  | some i => z.su a cls d (unEnds i D) (σ.set i (some (.ref a))) H
def wMx (K : PySem.W.Frag) (Wo : WX) (D : Ends) : List Clau → WX
  | [] => Wo
  | z :: r => fun cls d σ H => ∃ t, PySem.W.exmOne K cls z.cl = some t ∧ (t = true → ∀ a, H a = none → z.go D a cls d σ H) ∧ (t = false → wMx K Wo D r cls d σ H)
def SuOk (X : Cx) (b : List Stmt) (su : Addr → Value → Option Addr → TS) : Prop := ∀ (a : Addr) (o : Obj) (cls : Value) (d : Option Addr) (pn : List (Addr × Obj)), Zc cls d o → (∃ vs, o.data = .fields vs) → PSs (X.suite a ((a, o) :: pn)) b (su a cls d)
inductive HdMx (X : Cx) : List ExceptHandler → List Clau → Prop
  | nil : HdMx X [] []
  | bare {x : Str} {c : Value} {su : Addr → Value → Option Addr → TS} {b₀ : Stmt} {b : List Stmt} {p p' : Pos} {l : List ExceptHandler} {zs : List Clau} (nm : Names X x c) (ok : SuOk X (b₀ :: b) su) (r : HdMx X l zs) : HdMx X (.ExceptHandler (some (.Name x p)) none (b₀ :: b) p' :: l) (⟨c, none, su⟩ :: zs)
  | named {x n : Str} {i : Nat} {c : Value} {su : Addr → Value → Option Addr → TS} {b₀ : Stmt} {b : List Stmt} {p p' : Pos} {l : List ExceptHandler} {zs : List Clau} (nm : Names X x c) (hi : X.N[i]? = some n) (hl : X.env.kindOf n = some .local) (ok : SuOk X (b₀ :: b) su) (r : HdMx X l zs) : HdMx X (.ExceptHandler (some (.Name x p)) (some n) (b₀ :: b) p' :: l) (⟨c, some i, su⟩ :: zs)
section
variable {X : Cx} {body : List Stmt} {h₀ : ExceptHandler} {hds : List ExceptHandler} {zs : List Clau} {pos : Pos} {tb : WX → TS} {Wo : WX}
theorem ps_try_mx (stk : X.stack = X.env :: X.outer) (frm : X.env.frame = some X.env.locals) (nod : X.N.Nodup) (tk : Takes X Wo)
    (bo : ∀ (W : WX) (pn : List (Addr × Obj)) (xe : Value → Shared → Prop), Takes (X.tr pn xe) W → PassesOwn (model X.prog X.w) X.A X.env xe → PSs (X.tr pn xe) body (tb W)) (cl : HdMx X (h₀ :: hds) zs) :
    PS X (.Try body (h₀ :: hds) [] [] pos) (fun D σ H => tb (wMx X.K Wo D zs) D σ H) := by
  refine ⟨fun pins s σ H D I told => ?_⟩
  have iok := I.ok
  have fr0 : X.A.frames = some (X.env :: X.outer) := by rw [iok.frames, stk]
  refine wpAny_Try_except ?_
  refine wpAny_mono ((bo (wMx X.K Wo D zs) (X.pn ++ pins) (fun e t1 => wpAny (model X.prog X.w) X.A (noteFrame e X.env) (fun _ t2 => wpAny (model X.prog X.w) X.A (setFlight e none) (fun _ t3 => wpAny (model X.prog X.w) X.A (handleBy e X.env (h₀ :: hds)) (SP X pins D) X.xe t3) X.xe t2) X.xe t1) (fun u t xx => ?_) PassesOwn.looking).run [] s σ H D (I.toTry _) told) (fun f t1 done => ?_) (fun e t1 he => he)
  · obtain ⟨a, B, sI, pins', σ', H', cls, d, rfl, Jt, nb, up, sky, na, os, ag, w⟩ := xx
    have J : Inv X pins σ' H' sI := Jt.ofTry iok
    rw [stk] at sky
    have sky : Sky B (X.env :: X.outer) a (Zc cls d) X.env.locals t.heap := sky
    show wpAny (model X.prog X.w) X.A (noteFrame (.ref a) X.env) _ _ _
    refine Sky.land Zc.steady fr0 frm sky fun g3 fl3 u3 => ?_
    have J3 : Inv X pins σ' H' { t with heap := g3 } := J.landed nb fl3.1 (up.trans u3) os ag
    obtain ⟨q3, w3, he3, hz3, hd3⟩ := fl3.there
    have out : a ∉ frs (X.env :: X.outer) := fun hm => by
      obtain ⟨_, o', e', nf⟩ := fl3.2.2.1.mem hm
      rw [he3] at e'
      cases e'
      exact nf _ hd3
    have outL : a ≠ X.env.locals := fun y => out (List.mem_filterMap.mpr ⟨X.env, List.mem_cons_self, by rw [frm, y]⟩)
    have outF : a ∉ X.fs := fun hm => by
      obtain ⟨e, he, y⟩ := List.mem_filterMap.mp hm
      exact out (List.mem_filterMap.mpr ⟨e, List.mem_cons_of_mem _ he, y⟩)
    have S3 := J3.suite he3 hd3 na outL outF
    have LT : PySem.W.Looks (model X.prog X.w) g3 (typeOf (.ref a)) cls := fun A Q E s k y => wpAny_typeOf_ref (k _ _ he3) (by rw [hz3.1]; exact y)
    have test : ∀ {x : Str} {c : Value} {p : Pos} {Q E : Value → Shared → Prop}, Names X x c → Q c { t with heap := g3 } → wpAny (model X.prog X.w) (X.A.mark (some (.ref a))) (eval (.Name x p) X.env) Q E { t with heap := g3 } := fun {x c p Q E} nm y => by
      obtain ⟨n1, n2, n3 | ⟨n3, n4, n5⟩⟩ := nm
      · exact ld_glob (X := X.suite a ((a, q3) :: (X.pn ++ pins))) S3 n1 n3 y n2
      · exact ld_blt (X := X.suite a ((a, q3) :: (X.pn ++ pins))) S3 n1 n3 n4 y n5 n2
    have all : ∀ {ls : List ExceptHandler} {ys : List Clau}, HdMx X ls ys → wMx X.K Wo D ys cls d σ' H' → wpAny (model X.prog X.w) X.A (handleBy (.ref a) X.env ls) (SP X pins D) X.xe { t with heap := g3 } := by
      intro ls ys hk
      induction hk with
      | nil =>
        intro w
        refine wpAny_handleBy_nil ?_
        obtain ⟨_, _, _, o, vs, T0, oT, ts', he, hz, hd, h1, hr⟩ := id fl3
        unfold PySem.passOn
        refine wpAny_bind (wpAny_field he hd h1 ?_)
        rw [if_neg (show ¬ ((Value.ref T0 == Value.none) = true) from by simp)]
        have last : wpAny (model X.prog X.w) X.A (setFlight (.ref a) X.env.frame) (fun _ t4 => wpAny (model X.prog X.w) X.A (throw (.ref a) : Sem Flow) (SP X pins D) X.xe t4) X.xe { t with heap := g3 } := by
          rw [frm]
          exact HandSPX.setFlight_upZ fl3 fun g4 hh4 u4 => wpAny_throw (tk _ _ ⟨a, B, sI, pins, σ', H', cls, d, rfl, J, nb, (up.trans u3).trans u4, .inr (.inr (by rw [stk]; exact hh4)), na, os, ag, w⟩)
        first | exact wpAny_bind (wpAny_pure (wpAny_bind last)) | exact wpAny_bind last
      | @bare x c su b₀ b p p' l2 zs2 nm ok r ih =>
        intro ⟨v, v1, yes, no⟩
        refine wpAny_handleBy_cons (codeAny_handlers_test ?_) (by intro y; cases y)
        refine test nm ((PySem.W.exm_one (M := model X.prog X.w) J3.kIn LT v1).here ?_)
        cases v with
        | false => exact ih (no rfl)
        | true =>
          refine codeAny_handlers_suite ?_
          refine HandSPX.lands_againZ fl3 fun g4 fl4 u4 => ?_
          have J4 : Inv X pins σ' H' { t with heap := g4 } := J.landed nb fl4.1 ((up.trans u3).trans u4) os ag
          obtain ⟨q4, w4, he4, hz4, hd4⟩ := fl4.there
          have S4 := J4.suite he4 hd4 na outL outF
          refine wpAny_mono ((ok a q4 cls d (X.pn ++ pins) hz4 ⟨_, hd4⟩).run [] _ _ H' _ S4 (yes rfl a na)) (fun f t6 done => ?_) (fun _ _ y => y.elim)
          cases f with
          | ret u => exact let ⟨v6, σ6, H6, S6, r6, q6⟩ := done; ⟨_, _, _, S6.unsuite iok, r6, q6⟩
          | next => exact let ⟨σ6, H6, S6, q6⟩ := done; ⟨_, _, S6.unsuite iok, q6⟩
          | brk => exact let ⟨σ6, H6, S6, q6⟩ := done; ⟨_, _, S6.unsuite iok, q6⟩
          | cont => exact let ⟨σ6, H6, S6, q6⟩ := done; ⟨_, _, S6.unsuite iok, q6⟩
      | @named x n i c su b₀ b p p' l2 zs2 nm hi hl ok r ih =>
        intro ⟨v, v1, yes, no⟩
        refine wpAny_handleBy_cons (codeAny_handlers_test ?_) (by intro y; cases y)
        refine test nm ((PySem.W.exm_one (M := model X.prog X.w) J3.kIn LT v1).here ?_)
        cases v with
        | false => exact ih (no rfl)
        | true =>
          refine codeAny_handlers_suite_as ?_
          refine HandSPX.lands_againZ fl3 fun g4 fl4 u4 => ?_
          have J4 : Inv X pins σ' H' { t with heap := g4 } := J.landed nb fl4.1 ((up.trans u3).trans u4) os ag
          obtain ⟨q4, w4, he4, hz4, hd4⟩ := fl4.there
          have S4 := J4.suite he4 hd4 na outL outF
          refine store_ok (X := X.suite a ((a, q4) :: (X.pn ++ pins))) (v := .ref a) S4 nod hi (.inl hl) rfl (fun t5 S5 => ?_) (.inr hl)
          refine wpAny_mono ((ok a q4 cls d (X.pn ++ pins) hz4 ⟨_, hd4⟩).run [] t5 _ H' _ S5 (yes rfl a na)) (fun f t6 done => ?_) (fun _ _ y => y.elim)
          have gone : ∀ {σ6 : L2.St} {H6 : Hp} {Q : Shared → Prop}, Inv (X.suite a ((a, q4) :: (X.pn ++ pins))) [] σ6 H6 t6 → (∀ t7, Inv X pins (σ6.set i none) H6 t7 → Q t7) → wpAny (model X.prog X.w) X.A (do bindName X.env n .none; unbindBehindTheSuite X.env n p') (fun _ t7 => Q t7) X.xe t6 := fun {σ6 H6 Q} S6 y => gone_ok (S6.unsuite iok) nod hi hl y
          cases f with
          | ret u => exact let ⟨v6, σ6, H6, S6, r6, q6⟩ := done; gone S6 fun t7 J7 => ⟨_, _, _, J7, r6, q6⟩
          | next => exact let ⟨σ6, H6, S6, q6⟩ := done; gone S6 fun t7 J7 => ⟨_, _, J7, q6⟩
          | brk => exact let ⟨σ6, H6, S6, q6⟩ := done; gone S6 fun t7 J7 => ⟨_, _, J7, q6⟩
          | cont => exact let ⟨σ6, H6, S6, q6⟩ := done; gone S6 fun t7 J7 => ⟨_, _, J7, q6⟩
    exact all cl w
  · cases f with
    | ret u => exact let ⟨v, σ', H', Jt, r, y⟩ := done; ⟨v, σ', H', Jt.ofTry iok, r, y⟩
    | next => exact let ⟨σ', H', Jt, y⟩ := done; wpAny_execs_nil ⟨σ', H', Jt.ofTry iok, y⟩
    | brk => exact let ⟨σ', H', Jt, y⟩ := done; ⟨σ', H', Jt.ofTry iok, y⟩
    | cont => exact let ⟨σ', H', Jt, y⟩ := done; ⟨σ', H', Jt.ofTry iok, y⟩
end
end Y
set_option linter.all false
set_option maxHeartbeats 4000000
set_option maxRecDepth 100000
namespace Y
open PySem PySem.Spec PyProof.Rows L2 RZ
section
variable {g : G} {T : Tab} {n : Nm} {C : Calls} {L : Nat} {hx : Option Exc} {W : WX} {S : Sta} {X : Cx}
def G.wc (g : G) (c : Cau) : G := { g with cx := some c }
mutual
theorem RD_wc {c : Cau} {m : Mp} {H : Hp} : ∀ (d : D) (v : V), RD (g.wc c) m H d v = RD g m H d v
  | .non, v => by unfold RD; rfl
  | .bl _, v => by unfold RD; rfl
  | .int _, v => by unfold RD; rfl
  | .str _, v => by unfold RD; rfl
  | .ref _, v => by unfold RD; rfl
  | .kon _, v => by unfold RD; rfl
  | .tup ds, v => by
    unfold RD
    simp only [RDs_wc ds]
    rfl
theorem RDs_wc {c : Cau} {m : Mp} {H : Hp} : ∀ (ds : List D) (vs : List V), RDs (g.wc c) m H ds vs = RDs g m H ds vs
  | [], vs => by unfold RDs; rfl
  | d :: ds, vs => by
    unfold RDs
    simp only [RD_wc d, RDs_wc ds]
end
theorem RDf {c : Cau} : RD (g.wc c) = RD g := by
  funext m H d v
  exact RD_wc d v
theorem RDsf {c : Cau} : RDs (g.wc c) = RDs g := by
  funext m H d v
  exact RDs_wc d v
theorem RFf {c : Cau} : RF (g.wc c) = RF g := by
  funext m H
  unfold RF
  rw [RDf]
  rfl
theorem ROf {c : Cau} : RO (g.wc c) = RO g := by
  funext m H a o
  cases o with
  | lst ds => unfold RO; rw [RDsf]
  | fro ds => unfold RO; rw [RDsf]; rfl
  | dic kvs => unfold RO RK; rw [RDf]
  | ins c fs => unfold RO; rw [RFf]; rfl
theorem RXf {c : Cau} : RX (g.wc c) = RX g := by
  funext m H x cls dx
  unfold RX
  rw [RFf]
  rfl
theorem SR.wc {m : Mp} {H : Hp} {st : Store} {c : Cau} (s : SR g m H st) : SR (g.wc c) m H st := ⟨by rw [ROf]; exact s.at_, s.dom, s.inj⟩
theorem SR.cw {m : Mp} {H : Hp} {st : Store} {c : Cau} (s : SR (g.wc c) m H st) : SR g m H st := ⟨by have q := s.at_; rw [ROf] at q; exact q, s.dom, s.inj⟩
theorem TopAt.wc {mg : Str → Option Value} {c : Cau} (t : TopAt g T n mg) : TopAt (g.wc c) T n mg := ⟨t.nm, t.okc, t.oke, t.exg, t.exm, t.ex0, by rw [RDf]; exact t.glo, t.blt, t.fn, t.cl, t.noat, t.nofd, t.mk_, t.mt, t.kit, t.xf, t.xk, t.kit2⟩
theorem Vf.wc {w : World} {c : Cau} (v : Vf g T w) : Vf (g.wc c) T w := ⟨fun k h => let z := v.kon k h; ⟨z.d, by rw [RDf]; exact z.at_, z.cls⟩, v.nmi⟩
theorem ER.cw {m : Mp} {H : Hp} {σ : L2.St} {env : Env} {c : Cau} (gn : g.cx = none) (h : ER (g.wc c) m H σ env) : ER g m H σ env := ⟨h.len, by have q := h.at_; rw [RDf] at q; exact q, fun c e => by rw [gn] at e; cases e⟩
theorem ER.gone {m : Mp} {H : Hp} {σ : L2.St} {env : Env} (h : ER g m H σ env) (hc : g.cx = none) (i : Nat) (v : Option V) : ER g m H (σ.set i v) (env.set i none) := by
  refine ⟨by simp [h.len], fun j d q => ?_, fun c e => by rw [hc] at e; cases e⟩
  by_cases z : j = i
  · subst z
    have l := (List.getElem?_eq_some_iff.mp q).1
    rw [List.length_set] at l
    rw [List.getElem?_set_self l] at q
    cases q
  · rw [List.getElem?_set_ne (Ne.symm z)] at q ⊢
    exact h.at_ j d q
def hsOf (g : G) (T : Tab) (C : Calls) : Hs → List Clau
  | .nil => []
  | .cons c nm b hs => ⟨.ref (g.ca c), nm, fun a cls d D σ H => ∃ x : Exc, match nm with
    | none => rB g T C (some x) (fun _ _ _ _ => False) b D σ H
    | some i => ∃ (m : Mp) (env : Env) (st : Store), SR g m H st ∧ ER g m H σ env ∧ (i < σ.length → σ[i]? = some (some (.ref a))) ∧ RX g m H x cls d ∧ wpB T C (some x) b env st (kEnd (g.wc ⟨i, a, cls, d, x⟩) m H (fun _ _ _ _ => False) D)⟩ :: hsOf g T C hs
section
variable (O : CxS g T n C L hx W S X)
include O
theorem su_ok {a : Addr} {pn : List (Addr × Obj)} {x : Exc} (hn : hx = none) : CxS g T n C L (some x) (fun _ _ _ _ => False) S (X.suite a pn) where
  ok := {
    K := O.ok.K
    N := O.ok.N
    nd := O.ok.nd
    sc := O.ok.sc
    F := O.ok.F
    MC := O.ok.MC
    tk := fun u s' ⟨a, B, sI, pins, σ, H, cls, d, e, I, nb, up, sky, na, os, ag, w⟩ => w.elim
    hu := by
      have h := O.ok.hu
      exact h
    calm := fun h => nomatch h
    room := fun h => nomatch h
    top := O.ok.top
    cal := fun h => nomatch h
    hL := O.ok.hL
    exi := fun h => nomatch h
    cxn := fun h => nomatch h
    cxe := fun _ => O.ok.cxn hn
    cxs := fun i h => by
      obtain ⟨c, _, _, _, e, _⟩ := O.ok.cxs i h
      rw [O.ok.cxn hn] at e
      cases e }
  fn := O.fn
  kind := O.kind
  own := fun h => nomatch h
  stk := O.stk
  frm := O.frm
theorem su_okN {a : Addr} {oe : Obj} {pn : List (Addr × Obj)} {x : Exc} {i : Nat} {cls : Value} {d : Option Addr} (h1 : g.oke x.cls = true) (h2 : cls = .ref (g.ca x.cls)) (zc : Zc cls d oe) (fl : ∃ vs, oe.data = .fields vs) :
    CxS (g.wc ⟨i, a, cls, d, x⟩) T n C L (some x) (fun _ _ _ _ => False) ⟨S.N, S.sc, some i⟩ (X.suite a ((a, oe) :: pn)) where
  ok := {
    K := O.ok.K
    N := O.ok.N
    nd := O.ok.nd
    sc := O.ok.sc
    F := O.ok.F.wc
    MC := O.ok.MC
    tk := fun u s' ⟨a, B, sI, pins, σ, H, cls, d, e, I, nb, up, sky, na, os, ag, w⟩ => w.elim
    hu := by
      have h := O.ok.hu
      exact h
    calm := fun h => nomatch h
    room := fun h => nomatch h
    top := O.ok.top.wc
    cal := fun h => nomatch h
    hL := O.ok.hL
    exi := fun h => nomatch h
    cxn := fun h => nomatch h
    cxe := fun h => nomatch h
    cxs := fun j h => ⟨⟨i, a, cls, d, x⟩, X, oe, pn, rfl, Option.some.inj h, rfl, h1, h2, rfl, zc, fl⟩ }
  fn := O.fn
  kind := O.kind
  own := fun h => nomatch h
  stk := O.stk
  frm := O.frm
theorem tr_ok (hn : hx = none) {W' : WX} {pn : List (Addr × Obj)} {xe : Value → Shared → Prop} (tk : Takes (X.tr pn xe) W') (po : PassesOwn (model X.prog X.w) X.A X.env xe) : CxS g T n C L hx W' S (X.tr pn xe) where
  ok := {
    K := O.ok.K
    N := O.ok.N
    nd := O.ok.nd
    sc := O.ok.sc
    F := O.ok.F
    MC := O.ok.MC
    tk := tk
    hu := O.ok.hu
    calm := O.ok.calm
    room := O.ok.room
    top := O.ok.top
    cal := O.ok.cal
    hL := O.ok.hL
    exi := O.ok.exi
    cxn := O.ok.cxn
    cxe := O.ok.cxe
    cxs := fun i h => by
      obtain ⟨c, _, _, _, e, _⟩ := O.ok.cxs i h
      rw [O.ok.cxn hn] at e
      cases e }
  fn := O.fn
  kind := O.kind
  own := fun _ => po
  stk := O.stk
  frm := O.frm
theorem many_of (hn : hx = none) {m : Mp} {H : Hp} {De : Ends} {x : Exc} {cls : Value} {dx : Option Addr} : ∀ {hs : Hs} {hds : List ExceptHandler} {env : Env} {st : Store} {m' : Mp} {H' : Hp} {σ' : L2.St}, ckH n hs S hds = true → Ext m m' H H' → SR g m' H' st → ER g m' H' σ' env → RX g m' H' x cls dx →
    wpH T C hs x env st (kEnd g m H W De) → wMx X.K W De (hsOf g T C hs) cls dx σ' H'
  | .nil, hds, env, st, m', H', σ', hc, e, S1, E1, R1, h => h m' H' σ' cls dx e S1 E1 R1
  | .cons c nm b hs, hds, env, st, m', H', σ', hc, e, S1, E1, R1, h => by
    have r1 := R1.1
    have r2 := R1.2.1
    rw [O.ok.top.oke] at r2
    obtain ⟨y, hy⟩ := Option.isSome_iff_exists.mp r2
    have gn := O.ok.cxn hn
    have both : ∀ {x0 : Str}, n.ex c = some x0 → PySem.W.exmOne X.K cls (.ref (g.ca c)) = some (T.sub x.cls c) := fun {x0} k1 => by
      rw [O.ok.K, r1]
      exact O.ok.top.exm x.cls c y _ hy k1
    unfold ckH at hc
    split at hc
    · obtain ⟨hc, k6⟩ := and2 hc
      obtain ⟨hc, k5⟩ := and2 hc
      obtain ⟨hc, k4⟩ := and2 hc
      obtain ⟨hc, k3⟩ := and2 hc
      obtain ⟨k1, k2⟩ := and2 hc
      have enm : nm = none := by
        cases nm with
        | none => rfl
        | some i => cases k4
      subst enm
      unfold wpH at h
      refine ⟨T.sub x.cls c, both (of_decide_eq_true k1), fun hb a na => ?_, fun hb => ?_⟩
      · rw [if_pos hb] at h
        refine ⟨x, m', env, st, S1, E1, wpB_mono O.ok.MC b _ env st _ _ ?_ h⟩
        exact ⟨fun e' s z m2 H2 σ2 e2 S2 E2 => z m2 H2 σ2 (e.trans e2) S2 E2, fun d s z m2 H2 v e2 S2 r => z m2 H2 v (e.trans e2) S2 r, fun _ _ z => z.elim, fun _ _ z => z.elim, fun _ _ _ z => z.elim⟩
      · rw [if_neg (by rw [hb]; exact Bool.false_ne_true)] at h
        exact many_of hn k6 e S1 E1 R1 h
    · obtain ⟨hc, k6⟩ := and2 hc
      obtain ⟨hc, k5⟩ := and2 hc
      obtain ⟨hc, k4⟩ := and2 hc
      obtain ⟨hc, k3⟩ := and2 hc
      obtain ⟨k1, k2⟩ := and2 hc
      cases nm with
      | none => cases k4
      | some i =>
        unfold wpH at h
        refine ⟨T.sub x.cls c, both (of_decide_eq_true k1), fun hb a na => ?_, fun hb => ?_⟩
        · rw [if_pos hb] at h
          refine ⟨x, m', env.set i none, st, S1, E1.gone gn i _, fun l => ?_, R1, wpB_mono O.ok.MC b _ _ st _ _ ?_ h⟩
          · rw [List.length_set] at l
            rw [List.getElem?_set_self l]
          · exact ⟨fun e' s z m2 H2 σ2 e2 S2 E2 => z m2 H2 (σ2.set i none) (e.trans e2) S2.cw ((E2.cw gn).gone gn i none), fun d s z m2 H2 v e2 S2 r => z m2 H2 v (e.trans e2) S2.cw (by rw [RDf] at r; exact r), fun _ _ z => z.elim, fun _ _ z => z.elim, fun _ _ _ z => z.elim⟩
        · rw [if_neg (by rw [hb]; exact Bool.false_ne_true)] at h
          exact many_of hn k6 e S1 E1 R1 h
    · cases hc
theorem st_try {b : B} {hs : Hs} {body : List Stmt} {h0 : ExceptHandler} {hds : List ExceptHandler} {pos : Pos} (hc : ckH n hs S (h0 :: hds) = true)
    (hb : hx = none → ∀ {W' : WX} {X' : Cx}, CxS g T n C L hx W' S X' → PSs X' body (rB g T C hx W' b)) (hh : hx = none → HdMx X (h0 :: hds) (hsOf g T C hs)) : PS X (.Try body (h0 :: hds) [] [] pos) (rS g T C hx W (.tryS b hs)) := by
  by_cases hn : hx = none
  · refine PS.weak (ps_try_mx (tb := fun W' => rB g T C hx W' b) O.stk O.frm O.ok.nd O.ok.tk (fun W' pn xe tk po => hb hn (tr_ok O hn tk po)) (hh hn)) fun D σ H ⟨m, env, st, SR_, ER_, _, h⟩ => ?_
    refine ⟨m, env, st, SR_, ER_, wpB_mono O.ok.MC b hx env st _ _ ?_ h⟩
    exact ⟨fun _ _ z => z, fun _ _ z => z, fun _ _ z => z, fun _ _ z => z, fun x e s z m' H' σ' cls dx e1 S1 E1 R1 => many_of O hn hc e1 S1 E1 R1 z⟩
  · exact ps_false fun D σ H ⟨m, env, st, _, _, h, _⟩ => hn h
end
theorem ckR_nil {S : Sta} {args : List Expr} (h : ckR n .nil S args = true) : args = [] := by
  cases args with
  | nil => rfl
  | cons a r => cases h
theorem ckR_one {S : Sta} {e : E} {args : List Expr} (h : ckR n (.cons e .nil) S args = true) : ∃ ea, args = [ea] ∧ ckE n e S ea = true := by
  cases args with
  | nil => cases h
  | cons a r =>
    cases r with
    | nil => exact ⟨a, rfl, h⟩
    | cons _ _ => cases h
mutual
theorem snd_S : ∀ (s : Y.S) {g : G} {hx : Option Exc} {W : WX} {S : Sta} {X : Cx} {x : Stmt}, CxS g T n C L hx W S X → ckS n s S x = true → PS X x (rS g T C hx W s)
  | .asg tg e, g, hx, W, S, X, x, O, h => by
    unfold ckS at h
    split at h
    · obtain ⟨h, h3⟩ := and2 h
      obtain ⟨h1, h2⟩ := and2 h
      exact st_asg O h1 h2 h3
    · cases h
  | .asg2 i j a b, g, hx, W, S, X, x, O, h => by
    unfold ckS at h
    split at h
    · obtain ⟨h, k12⟩ := and2 h
      obtain ⟨h, k11⟩ := and2 h
      obtain ⟨h, k10⟩ := and2 h
      obtain ⟨h, k9⟩ := and2 h
      obtain ⟨h, k8⟩ := and2 h
      obtain ⟨h, k7⟩ := and2 h
      obtain ⟨h, k6⟩ := and2 h
      obtain ⟨h, k5⟩ := and2 h
      obtain ⟨h, k4⟩ := and2 h
      obtain ⟨h, k3⟩ := and2 h
      obtain ⟨k1, k2⟩ := and2 h
      rw [Bool.not_eq_true'] at k7 k9 k10
      exact st_asg2 O (of_decide_eq_true k1) (of_decide_eq_true k2) (of_decide_eq_true k3) k4 k5 k6 k7 k8 k9 k10 (snd_E a O.ok k11) (snd_E b O.ok k12)
    · cases h
  | .setf o f e, g, hx, W, S, X, x, O, h => by
    unfold ckS at h
    split at h
    · obtain ⟨h, h3⟩ := and2 h
      obtain ⟨h1, h2⟩ := and2 h
      exact st_setf O (of_decide_eq_true h1) (snd_E o O.ok h2) (snd_E e O.ok h3)
    · cases h
  | .seti o i e, g, hx, W, S, X, x, O, h => by
    unfold ckS at h
    split at h
    · obtain ⟨h, h4⟩ := and2 h
      obtain ⟨h, h3⟩ := and2 h
      obtain ⟨h1, h2⟩ := and2 h
      exact st_seti O h1 (snd_E o O.ok h2) (snd_E i O.ok h3) (snd_E e O.ok h4)
    · cases h
  | .augn i op e, g, hx, W, S, X, x, O, h => by
    unfold ckS at h
    split at h
    · obtain ⟨h, h5⟩ := and2 h
      obtain ⟨h, h4⟩ := and2 h
      obtain ⟨h, h3⟩ := and2 h
      obtain ⟨h, h2⟩ := and2 h
      obtain ⟨h0, h1⟩ := and2 h
      exact st_augn O (of_decide_eq_true h0) (of_decide_eq_true h1) h2 h3 h4 (snd_E e O.ok h5)
    · cases h
  | .augf o f op e, g, hx, W, S, X, x, O, h => by
    unfold ckS at h
    split at h
    · obtain ⟨h, h5⟩ := and2 h
      obtain ⟨h, h4⟩ := and2 h
      obtain ⟨h, h3⟩ := and2 h
      obtain ⟨h1, h2⟩ := and2 h
      exact st_augf O (of_decide_eq_true h1) h2 h3 (snd_E o O.ok h4) (snd_E e O.ok h5)
    · cases h
  | .exp e, g, hx, W, S, X, x, O, h => by
    unfold ckS at h
    split at h
    · obtain ⟨h1, h2⟩ := and2 h
      exact st_exp O h1 (snd_E e O.ok h2)
    · cases h
  | .ret e, g, hx, W, S, X, x, O, h => by
    unfold ckS at h
    split at h
    · exact st_ret O (snd_E e O.ok h)
    · cases h
  | .retN, g, hx, W, S, X, x, O, h => by
    unfold ckS at h
    split at h
    · exact st_retN O
    · cases h
  | .ifS c a b, g, hx, W, S, X, x, O, h => by
    unfold ckS at h
    split at h
    · obtain ⟨h, h3⟩ := and2 h
      obtain ⟨h1, h2⟩ := and2 h
      exact st_if O (snd_T c O.ok h1).1 (snd_B a O h2) (snd_B b O h3)
    · cases h
  | .forS tg it b, g, hx, W, S, X, x, O, h => by
    unfold ckS at h
    split at h
    · obtain ⟨h, h4⟩ := and2 h
      obtain ⟨h, h3⟩ := and2 h
      obtain ⟨h1, h2⟩ := and2 h
      exact st_for O h1 h3 (snd_I it O.ok h2) (snd_B b O h4)
    · cases h
  | .whl c b, g, hx, W, S, X, x, O, h => by
    unfold ckS at h
    split at h
    · obtain ⟨h1, h2⟩ := and2 h
      exact st_while O (snd_T c O.ok h1).1 (snd_B b O h2)
    · cases h
  | .brk, g, hx, W, S, X, x, O, h => by
    unfold ckS at h
    split at h
    · exact st_brk O
    · cases h
  | .cnt, g, hx, W, S, X, x, O, h => by
    unfold ckS at h
    split at h
    · exact st_cnt O
    · cases h
  | .pas, g, hx, W, S, X, x, O, h => by
    unfold ckS at h
    split at h
    · exact st_pas O
    · cases h
  | .rais c .nil, g, hx, W, S, X, x, O, h => by
    unfold ckS at h
    split at h
    · obtain ⟨h, h4⟩ := and2 h
      obtain ⟨h, h3⟩ := and2 h
      obtain ⟨h, h2⟩ := and2 h
      obtain ⟨h1, h0⟩ := and2 h
      obtain rfl := ckR_nil h4
      exact st_raise0 O (of_decide_eq_true h1) h0 h2
    · cases h
  | .rais c (.cons e .nil), g, hx, W, S, X, x, O, h => by
    unfold ckS at h
    split at h
    · obtain ⟨h, h4⟩ := and2 h
      obtain ⟨h, h3⟩ := and2 h
      obtain ⟨h, h2⟩ := and2 h
      obtain ⟨h1, h0⟩ := and2 h
      obtain ⟨ea, rfl, h5⟩ := ckR_one h4
      exact st_raise1 O (of_decide_eq_true h1) h0 h2 (and2 h3).1 (snd_E e O.ok h5)
    · cases h
  | .rais c (.cons _ (.cons _ _)), g, hx, W, S, X, x, O, h => ps_false fun D σ H ⟨m, env, st, _, _, _, h'⟩ => by
      split at h'
      · rename_i q; cases q
      · rename_i q; cases q
      · exact h'
  | .tryS b hs, g, hx, W, S, X, x, O, h => by
    unfold ckS at h
    split at h
    · obtain ⟨h1, h2⟩ := and2 h
      exact st_try O h2 (fun hn _ _ O' => snd_B b O' h1) (fun hn => snd_H hs hn O h2)
    · cases h
  | .bad, g, hx, W, S, X, x, O, h => ps_false fun D σ H ⟨m, env, st, _, _, h'⟩ => h'
  | .del _ _, g, hx, W, S, X, x, O, h => by
    unfold ckS at h
    cases h
theorem snd_B : ∀ (b : B) {g : G} {hx : Option Exc} {W : WX} {S : Sta} {X : Cx} {l : List Stmt}, CxS g T n C L hx W S X → ckB n b S l = true → PSs X l (rB g T C hx W b)
  | .nil, g, hx, W, S, X, l, O, h => by
    unfold ckB at h
    split at h
    · exact PSs.weak pss_nil fun D σ H ⟨m, env, st, S1, E1, h⟩ => h m H σ (.refl _ _) S1 E1
    · cases h
  | .cons s b, g, hx, W, S, X, l, O, h => by
    unfold ckB at h
    split at h
    · obtain ⟨h1, h2⟩ := and2 h
      refine PSs.weak (pss_cons (snd_S s O h1) (snd_B b O h2)) fun D σ H ⟨m, env, st, S1, E1, h⟩ => ?_
      unfold wpB at h
      refine ⟨m, env, st, S1, E1, wpS_mono O.ok.MC s hx env st _ _ ?_ h⟩
      exact ⟨fun e s' z m2 H2 σ2 e2 S2 E2 => ⟨m2, e, s', S2, E2, wpB_mono O.ok.MC b hx e s' _ _ (kEnd_ext e2) z⟩, fun _ _ z => z, fun _ _ z => z, fun _ _ z => z, fun _ _ _ z => z⟩
    · cases h
theorem snd_H : ∀ (hs : Hs) {g : G} {hx : Option Exc} {W : WX} {S : Sta} {X : Cx} {l : List ExceptHandler}, hx = none → CxS g T n C L hx W S X → ckH n hs S l = true → HdMx X l (hsOf g T C hs)
  | .nil, g, hx, W, S, X, l, hn, O, h => by
    unfold ckH at h
    split at h
    · exact .nil
    · cases h
  | .cons c nm b hs, g, hx, W, S, X, l, hn, O, h => by
    unfold ckH at h
    split at h
    · obtain ⟨h, k6⟩ := and2 h
      obtain ⟨h, k5⟩ := and2 h
      obtain ⟨h, k4⟩ := and2 h
      obtain ⟨h, k3⟩ := and2 h
      obtain ⟨k1, k2⟩ := and2 h
      cases nm with
      | some i => cases k4
      | none =>
        refine .bare ⟨O.ok.gl k2, okN_1 k3, .inl (O.ok.top.exg c _ (of_decide_eq_true k1))⟩ (fun a oe cls d pn _ _ => ?_) (snd_H hs hn O k6)
        exact ⟨fun pins s σ H D I ⟨x, q⟩ => (snd_B b (su_ok O (x := x) hn) k5).run pins s σ H D I q⟩
    · obtain ⟨h, k6⟩ := and2 h
      obtain ⟨h, k5⟩ := and2 h
      obtain ⟨h, k4⟩ := and2 h
      obtain ⟨h, k3⟩ := and2 h
      obtain ⟨k1, k2⟩ := and2 h
      cases nm with
      | none => cases k4
      | some i =>
        obtain ⟨k7, k8⟩ := and2 k4
        have hi := of_decide_eq_true k7
        rw [← O.ok.N] at hi
        refine .named ⟨O.ok.gl k2, okN_1 k3, .inl (O.ok.top.exg c _ (of_decide_eq_true k1))⟩ hi ?_ (fun a oe cls d pn zc fl => ?_) (snd_H hs hn O k6)
        · show X.env.scope.names.lookup _ = some .local
          rw [O.ok.sc]
          unfold loB at k8
          split at k8
          · assumption
          · cases k8
        · refine ⟨fun pins s σ H D I ⟨x, m, env, st, S1, E1, sl, R1, q⟩ => ?_⟩
          have il : i < σ.length := by
            have := (List.getElem?_eq_some_iff.mp hi).1
            have h2 : σ.length = X.N.length := I.len
            omega
          have gn := O.ok.cxn hn
          refine (snd_B b (su_okN O (x := x) (i := i) R1.2.1 R1.1 zc fl) k5).run pins s σ H D I ⟨m, env, st, S1.wc, ⟨E1.len, by rw [RDf]; exact E1.at_, fun c e => ?_⟩, q⟩
          cases e
          rw [RXf]
          exact ⟨sl il, R1⟩
    · cases h
end
end
end Y
set_option linter.all false
set_option maxHeartbeats 4000000
set_option maxRecDepth 100000
namespace Y
open PySem PySem.Spec PyProof.Rows L2 RZ
def DefAt (g : G) (n : Nm) (f : Nat) (fn : Fn) : Prop := ∃ (x qual : Str) (params : Arguments) (body : List Stmt) (scope : Scope) (N ps : List Str) (dvs : List V) (kws : List (Str × V)) (fd : FuncData),
  FunD g.K x qual params body scope dvs kws (g.fa f) fd ∧ FnScope N ps scope ∧ ps.length = fn.np ∧ N.length = fn.ns ∧ ckB n fn.body ⟨N, scope, none⟩ body = true ∧ Binds g.K fd ps [] ∧
  (n.df f ≠ [] → ∃ ds dvs, Vals dvs ds ∧ Binds g.K fd ps ds ∧ ∀ m H, RDs g m H (n.df f) dvs)
structure TopOk (g : G) (T : Tab) (n : Nm) (P : Program) (w : World) (mg : Str → Option Value) (base : Heap) : Prop where
  top : TopAt g T n mg
  vf : Vf g T w
  exi : ExiAt g T n P w mg base
  df : ∀ f fn, T.fn f = some fn → DefAt g n f fn
  cxn : g.cx = none
section
variable {g : G} {T : Tab} {n : Nm} {P : Program} {w : World} {mg : Str → Option Value} {base : Heap}
theorem er_start (gn : g.cx = none) {m : Mp} {H : Hp} : ∀ {ds : List D} {vs : List V} {a b : Nat}, RDs g m H ds vs → a = b → ER g m H (vs.map some ++ List.replicate a none) (ds.map some ++ List.replicate b none) := fun {ds vs a b} r e => by
  subst e
  refine ⟨by simp [r.length], fun i d q => ?_, fun c e => by rw [gn] at e; cases e⟩
  by_cases l : i < ds.length
  · rw [List.getElem?_append_left (by simpa using l), List.getElem?_map] at q
    obtain ⟨d', h1, h2⟩ := Option.map_eq_some_iff.mp q
    cases h2
    obtain ⟨v, h3, h4⟩ := r.get h1
    refine ⟨v, ?_, h4⟩
    rw [List.getElem?_append_left (by simpa [r.length] using l), List.getElem?_map, h3]
    rfl
  · rw [List.getElem?_append_right (by simpa using l)] at q
    have q2 := List.mem_of_getElem? q
    rw [List.mem_replicate] at q2
    cases q2.2
theorem fn_ok (K : TopOk g T n P w mg base) {k f : Nat} (ih : ∀ (f : Nat) (ds : List D) (st : Store) (Q : QE) (E0 : QX), Call T k f ds st Q E0 → CalAt g n P w mg base (2 * k + 2) (Call T k) f) {fn : Fn} (ef : T.fn f = some fn)
    {x qual : Str} {params : Arguments} {body : List Stmt} {scope : Scope} {N ps : List Str} {dvs : List V} {kws : List (Str × V)} {fd : FuncData} (F : FunD g.K x qual params body scope dvs kws (g.fa f) fd) (Sc : FnScope N ps scope) (hp : ps.length = fn.np) (hN : N.length = fn.ns)
    (hc : ckB n fn.body ⟨N, scope, none⟩ body = true) : FnOk P w g.K mg base (L2.CX P w) ((2 * k + 3) + 1) (g.fa f) fd ps (spF g (Call T (k + 1)) f) := by
  refine F.ok Sc (fun vs H Q E z => ?_) fun cdv A outer s H vs Q E hr z => ?_
  · obtain ⟨m, st, ds, S1, rd, z⟩ := z
    unfold Call at z
    rw [ef] at z
    rw [rd.length, z.1, hp]
  · obtain ⟨m, st, ds, S1, rd, z⟩ := z
    unfold Call at z
    rw [ef] at z
    have O : CxS g T n (Call T k) (2 * k + 2) none (fun cls d _ H => E cls d H) ⟨N, scope, none⟩ (cxOf (L2.CX P w) P w g.K mg base N qual scope (g.fa f) cdv A outer s H E) := {
      ok := {
        K := rfl
        N := rfl
        nd := Sc.nd
        sc := rfl
        F := K.vf
        MC := Call_mono T k
        tk := takes_of rfl rfl rfl rfl
        hu := hr.units
        calm := fun _ => rfl
        room := fun _ => hr
        top := K.top
        cal := fun _ => ih
        hL := by omega
        exi := fun _ => K.exi
        cxn := fun _ => K.cxn
        cxe := fun _ => K.cxn
        cxs := fun i h => (by cases h) }
      fn := fun _ => rfl
      kind := Sc.kind
      own := fun _ => passes_of rfl
      stk := rfl
      frm := rfl }
    refine ⟨rB g T (Call T k) none (fun cls d _ H => E cls d H) fn.body, snd_B fn.body O hc, m, _, st, S1, er_start K.cxn (b := fn.ns - fn.np) rd (by rw [hN, rd.length, z.1]), wpB_mono (Call_mono T k) _ _ _ _ _ _ ?_ z.2⟩
    exact ⟨fun e s' z m2 H2 σ2 e2 S2 _ => z m2 H2 .non e2 S2 rfl, fun d s' z m2 H2 v e2 S2 r => z m2 H2 v e2 S2 r, fun _ _ z => z.elim, fun _ _ z => z.elim, fun x e s' z m2 H2 σ2 c d e2 S2 _ r => z m2 H2 c d e2 S2 r⟩
theorem all_ok (K : TopOk g T n P w mg base) : ∀ (k f : Nat) (ds : List D) (st : Store) (Q : QE) (E0 : QX), Call T k f ds st Q E0 → CalAt g n P w mg base (2 * k + 2) (Call T k) f
  | 0, _, _, _, _, _, h => h.elim
  | k + 1, f, ds, st, Q, E0, h => by
    have ih := all_ok K k
    cases ef : T.fn f with
    | none =>
      unfold Call at h
      rw [ef] at h
      exact h.elim
    | some fn =>
      obtain ⟨x, qual, params, body, scope, N, ps, dvs, kws, fd, F, Sc, hp, hN, hc, b, b2⟩ := K.df f fn ef
      refine ⟨fd, ps, ?_, b, b2⟩
      exact fn_ok K ih ef F Sc hp hN hc
def st0 (ns : List Int) : Store := [.fro (ns.map D.int)]
theorem rds_ints {m : Mp} {H : Hp} : ∀ ns : List Int, RDs g m H (ns.map D.int) (ns.map V.int)
  | [] => rfl
  | _ :: ns => .cons rfl (rds_ints ns)
theorem sp_law {k f : Nat} {H : Hp} {a : Addr} {ns : List Int} (ho : Only H) (hs : SqL g.K H a (ns.map V.int)) (h : Call T k f [.ref 0] (st0 ns) (fun d _ => d = .bl true) fun _ _ => False) : spF g (Call T k) f [.ref a] H (fun v _ => v = .bl true) fun _ _ _ => False := by
  refine ⟨fun h => if h = 0 then some a else none, st0 ns, [.ref 0], ⟨fun h o q => ?_, fun h l => ?_, fun h h' b e e' _ _ => ?_⟩, .one ⟨a, rfl, rfl⟩, Call_mono T k _ _ _ _ _ _ _ (fun d s z m' H' v e S1 r => ?_) (fun _ _ z => z.elim) h⟩
  · cases h with
    | zero =>
      cases q
      refine ⟨a, rfl, ns.map V.int, ?_, rds_ints ns⟩
      rcases hs with (e | ⟨o, e⟩) | e
      · rcases ho a with z | ⟨o, xs, z⟩
        · rw [z] at e; cases e
        · rw [z] at e; cases e
      · exact .inl ⟨o, e⟩
      · exact .inr e
    | succ h => cases q
  · cases h with
    | zero => exact absurd (show 1 ≤ 0 from l) (by decide)
    | succ h => rfl
  · cases h with
    | zero =>
      cases h' with
      | zero => rfl
      | succ h' => cases e'
    | succ h => cases e
  · subst z
    exact r
end
end Y
set_option linter.all false
set_option maxHeartbeats 4000000
set_option maxRecDepth 100000
namespace Y
open PySem PySem.Spec PyProof.Rows L2 RZ
theorem zip_some : ∀ {ps : List Str} {us : List Value} {x : Str}, us.length = ps.length → x ∈ ps → ((ps.zip us).lookup x).isSome = true
  | p :: ps, u :: us, x, hl, hx => by
    rw [List.zip_cons_cons, List.lookup_cons]
    cases e : x == p with
    | true => rfl
    | false =>
      refine zip_some (Nat.succ.inj hl) ?_
      cases hx with
      | head => rw [beq_self_eq_true] at e; cases e
      | tail _ m => exact m
theorem zip_map : ∀ {ps : List Str} {us : List Value} (l : List (Str × Value)), us.length = ps.length → ps.Nodup → (∀ x ∈ ps, l.lookup x = (ps.zip us).lookup x) → ps.filterMap (fun n => (l.lookup n).map (n, ·)) = ps.zip us
  | [], _, _, _, _, _ => by simp
  | p :: ps, u :: us, l, hl, nd, h => by
    have h0 : l.lookup p = some u := by
      rw [h p List.mem_cons_self, List.zip_cons_cons, List.lookup_cons, beq_self_eq_true]
    rw [List.filterMap_cons, h0, List.zip_cons_cons]
    refine congrArg ((p, u) :: ·) (zip_map l (Nat.succ.inj hl) (List.nodup_cons.mp nd).2 fun x hx => ?_)
    rw [h x (List.mem_cons_of_mem _ hx), List.zip_cons_cons, List.lookup_cons]
    have ne : (x == p) = false := by
      apply Bool.eq_false_iff.mpr
      intro z
      rw [eq_of_beq z] at hx
      exact (List.nodup_cons.mp nd).1 hx
    rw [ne]
theorem bind_gen {fd : FuncData} {ps : List Str} {us : List Value} (h1 : fd.params.posonlyargs = []) (h2 : fd.params.args.map (·.arg) = ps) (h3 : fd.params.kwonlyargs = []) (h4 : fd.params.vararg = none) (h5 : fd.params.kwarg = none) (h6 : fd.defaults = .none) (nd : ps.Nodup) (hl : us.length = ps.length) :
    bindArgs fd ⟨us, []⟩ = pure (ps.zip us) := by
  have sq : seqItems? fd.defaults = pure none := by
    rw [h6]
    rfl
  have miss : (ps.filter fun n => ((ps.zip us).lookup n).isNone) = [] := by
    rw [List.filter_eq_nil_iff]
    intro x hx
    have q := zip_some hl hx
    cases e : (ps.zip us).lookup x with
    | none => rw [e] at q; cases q
    | some v => simp
  have fm := zip_map (ps.zip us) hl nd fun _ _ => rfl
  unfold bindArgs
  simp only [h1, h2, h3, h4, h5, sq, List.map_nil, List.nil_append, List.append_nil, List.forIn_nil, pure_bind, Option.getD_none, List.length_nil, Nat.sub_zero, Nat.zero_sub, List.drop_nil, List.drop_zero, List.take_length, miss, List.isEmpty_nil, hl, Nat.lt_irrefl, List.zip_nil_right, fm, gt_iff_lt, decide_false, Bool.false_and, Option.isNone_none, Bool.not_true, Bool.false_eq_true, if_false]
end Y
set_option linter.all false
set_option maxHeartbeats 4000000
set_option maxRecDepth 100000
namespace Y
open PySem PySem.Spec PyProof.Rows L2 RZ
theorem zip_none : ∀ {ps : List Str} {us : List Value} {x : Str}, x ∉ ps → (ps.zip us).lookup x = none
  | [], us, x, _ => by simp
  | p :: ps, [], x, _ => by simp
  | p :: ps, u :: us, x, h => by
    rw [List.zip_cons_cons, List.lookup_cons]
    have ne : (x == p) = false := by
      apply Bool.eq_false_iff.mpr
      intro z
      exact h (by rw [eq_of_beq z]; exact List.mem_cons_self)
    rw [ne]
    exact zip_none fun m => h (List.mem_cons_of_mem _ m)
theorem zip_app {qs : List Str} {q : Str} {us : List Value} (hl : us.length = qs.length) : (qs ++ [q]).zip us = qs.zip us := by
  induction qs generalizing us with
  | nil => rw [List.length_eq_zero_iff.mp hl]; simp
  | cons p qs ih =>
    cases us with
    | nil => cases hl
    | cons u us => rw [List.cons_append, List.zip_cons_cons, List.zip_cons_cons, ih (Nat.succ.inj hl)]
theorem zip_app2 {qs : List Str} {q : Str} {us : List Value} {v : Value} (hl : us.length = qs.length) : (qs ++ [q]).zip (us ++ [v]) = qs.zip us ++ [(q, v)] := by
  induction qs generalizing us with
  | nil => rw [List.length_eq_zero_iff.mp hl]; rfl
  | cons p qs ih =>
    cases us with
    | nil => cases hl
    | cons u us => rw [List.cons_append, List.cons_append, List.zip_cons_cons, List.zip_cons_cons, List.cons_append, ih (Nat.succ.inj hl)]
theorem bind_all1 {x qual : Str} {params : Arguments} {body : List Stmt} {scope : Scope} {T : Addr} {kV doc pm : Value} {an : Option Addr} {cdv ct : Value} {qs : List Str} {q : Str} {us : List Value} {v : Value} (h1 : params.posonlyargs = []) (h2 : params.args.map (·.arg) = qs ++ [q]) (h3 : params.kwonlyargs = []) (h4 : params.vararg = none) (h5 : params.kwarg = none) (nd : (qs ++ [q]).Nodup) (hl : us.length = (qs ++ [q]).length) :
    ∃ k, bindArgs (PySem.W.fnOf x qual params body scope (.ref T) kV doc pm an cdv ct) ⟨us, []⟩ = seqItems? (.ref T) >>= k ∧ k (some [v].toArray) = pure ((qs ++ [q]).zip us) := by
  refine ⟨_, rfl, ?_⟩
  have some_ : ∀ y ∈ qs ++ [q], (((qs ++ [q]).zip us).lookup y).isSome = true := fun y hy => zip_some hl hy
  have miss : ((qs).filter fun n => (((qs ++ [q]).zip us).lookup n).isNone) = [] := by
    rw [List.filter_eq_nil_iff]
    intro y hy
    have z := some_ y (List.mem_append_left _ hy)
    cases e : ((qs ++ [q]).zip us).lookup y with
    | none => rw [e] at z; cases z
    | some v => simp
  have lq : (((qs ++ [q]).zip us).lookup q).isNone = false := by
    have z := some_ q (by simp)
    cases e : ((qs ++ [q]).zip us).lookup q with
    | none => rw [e] at z; cases z
    | some v => rfl
  have fm := zip_map ((qs ++ [q]).zip us) hl nd fun _ _ => rfl
  have lens : (qs ++ [q]).length = qs.length + 1 := by simp
  have d1 : List.drop (1 - (qs.length + 1)) [v] = [v] := by rw [show 1 - (qs.length + 1) = 0 by omega]; rfl
  have d2 : List.take qs.length (qs ++ [q]) = qs := List.take_left
  have d3 : List.drop qs.length (qs ++ [q]) = [q] := List.drop_left
  simp only [PySem.W.fnOf, h1, h2, h3, h4, h5, List.map_nil, List.nil_append, List.append_nil, List.forIn_nil, pure_bind, Option.getD_some, List.toList_toArray, List.length_singleton, hl, lens, gt_iff_lt, Nat.lt_irrefl, decide_false, Bool.false_and, Bool.false_eq_true, if_false, d1, Nat.add_sub_cancel, d2, d3, miss, List.isEmpty_nil, Bool.not_true,
    List.zip_cons_cons, List.zip_nil_left, List.forIn_cons, lq, fm]
theorem bind_dfl1 {x qual : Str} {params : Arguments} {body : List Stmt} {scope : Scope} {T : Addr} {kV doc pm : Value} {an : Option Addr} {cdv ct : Value} {qs : List Str} {q : Str} {us : List Value} {v : Value} (h1 : params.posonlyargs = []) (h2 : params.args.map (·.arg) = qs ++ [q]) (h3 : params.kwonlyargs = []) (h4 : params.vararg = none) (h5 : params.kwarg = none) (nd : (qs ++ [q]).Nodup) (hl : us.length = qs.length) :
    ∃ k, bindArgs (PySem.W.fnOf x qual params body scope (.ref T) kV doc pm an cdv ct) ⟨us, []⟩ = seqItems? (.ref T) >>= k ∧ k (some [v].toArray) = pure ((qs ++ [q]).zip (us ++ [v])) := by
  refine ⟨_, rfl, ?_⟩
  have ndq : q ∉ qs := fun m => (List.nodup_append.mp nd).2.2 q m q (by simp) rfl
  have some_ : ∀ y ∈ qs, ((qs.zip us).lookup y).isSome = true := fun y hy => zip_some hl hy
  have miss : ((qs).filter fun n => ((qs.zip us).lookup n).isNone) = [] := by
    rw [List.filter_eq_nil_iff]
    intro y hy
    have z := some_ y hy
    cases e : (qs.zip us).lookup y with
    | none => rw [e] at z; cases z
    | some v => simp
  have lq : ((qs.zip us).lookup q).isNone = true := by rw [zip_none ndq]; rfl
  have fm := zip_map (ps := qs ++ [q]) (us := us ++ [v]) (qs.zip us ++ [(q, v)]) (by simp [hl]) nd fun _ _ => by rw [zip_app2 hl]
  rw [zip_app2 hl] at fm ⊢
  have lens : (qs ++ [q]).length = qs.length + 1 := by simp
  have nlt : ¬ qs.length + 1 < qs.length := by omega
  have d1 : List.drop (1 - (qs.length + 1)) [v] = [v] := by rw [show 1 - (qs.length + 1) = 0 by omega]; rfl
  have d2 : List.take qs.length (qs ++ [q]) = qs := List.take_left
  have d3 : List.drop qs.length (qs ++ [q]) = [q] := List.drop_left
  simp only [PySem.W.fnOf, h1, h2, h3, h4, h5, List.map_nil, List.nil_append, List.append_nil, List.forIn_nil, pure_bind, Option.getD_some, List.toList_toArray, List.length_singleton, hl, lens, gt_iff_lt, nlt, decide_false, Bool.false_and, Bool.false_eq_true, if_false, d1, Nat.add_sub_cancel, d2, d3, zip_app hl, miss, List.isEmpty_nil, Bool.not_true,
    List.zip_cons_cons, List.zip_nil_left, List.forIn_cons, lq, if_true, fm]
section
variable {K : PySem.W.Frag} {ps N : List Str} {x qual : Str} {a : Arguments} {body : List Stmt} {sc : Scope} {dv : V} {f : Addr} {fd : FuncData}
theorem vals_nil {ds : List Value} (h : Vals ([] : List V) ds) : ds = [] := by cases h; rfl
theorem one_of {its : List Value} (h : its.length = [dv].length) : ∃ v, its = [v] := by
  cases its with
  | nil => cases h
  | cons v r => cases r with
    | nil => exact ⟨v, rfl⟩
    | cons _ _ => cases h
theorem last_of (h : ps ≠ []) : ∃ qs q, ps = qs ++ [q] := ⟨_, _, (List.dropLast_concat_getLast h).symm⟩
theorem binds_one (F : FunD K x qual a body sc [dv] [] f fd) (ne : ps ≠ []) (nd : ps.Nodup) (h1 : a.posonlyargs = []) (h2 : a.args.map (·.arg) = ps) (h3 : a.kwonlyargs = []) (h4 : a.vararg = none) (h5 : a.kwarg = none) :
    Binds K fd ps [] ∧ ∃ ds, Vals [dv] ds ∧ Binds K fd ps ds := by
  obtain ⟨qs, q, rfl⟩ := last_of ne
  refine ⟨?_, ?_⟩
  · obtain ⟨ds, h, b⟩ := F.binds1 (ps := qs ++ [q]) (qs ++ [q]).length 1 (by simp) (by simp) fun T kV doc pm an cdv ct us its hu hi => by
      obtain ⟨v, rfl⟩ := one_of (dv := dv) hi
      obtain ⟨k, e1, e2⟩ := bind_all1 (x := x) (qual := qual) (body := body) (scope := sc) (T := T) (kV := kV) (doc := doc) (pm := pm) (an := an) (cdv := cdv) (ct := ct) (v := v) h1 h2 h3 h4 h5 nd hu
      exact ⟨k, e1, by rw [e2]; simp⟩
    rw [vals_nil h] at b
    exact b
  · exact F.binds1 (ps := qs ++ [q]) qs.length 0 (by simp) (by simp) fun T kV doc pm an cdv ct us its hu hi => by
      obtain ⟨v, rfl⟩ := one_of (dv := dv) hi
      exact bind_dfl1 h1 h2 h3 h4 h5 nd hu
end
end Y
set_option linter.all false
set_option maxHeartbeats 4000000
set_option maxRecDepth 100000
namespace Y
open PySem PySem.Spec PyProof.Rows L2 RZ
structure Fd where
  d : He.DefD
  N : List Str
  ps : List Str
  fn : Fn
  df : List D := []
structure Ld where
  fds : List Fd
  cls : List (Str × Option (Option Nat))
  flds : List Str
  gls : List (Str × D)
  mts : List (Nat × Nat × Str)
  mks : List (Nat × Nat)
  xis : List (Nat × He.DefD × Str × Str)
  subs : List (Nat × Nat)
  kons : List (Str × List (List Nat × D)) := []
  xfs : List Nat := []
  ei : Bool := false
namespace Ld
variable (L : Ld)
def tab : Tab where
  fn f := (L.fds[f]?).map (·.fn)
  glo i := (L.gls[i]?).map (·.2)
  kon k := match L.kons[k]? with
    | some p => p.2
    | none => []
  exf c := match L.cls[c]? with
    | some (_, some f) => some f
    | _ => none
  sub c d := L.subs.contains (c, d)
def cln (c : Nat) : Str := match L.cls[c]? with
  | some (x, _) => x
  | none => ""
def nm : Nm where
  fn f := match L.fds[f]? with
    | some d => (match d.d.at_.2 with
      | none => some d.d.at_.1
      | some _ => none)
    | none => none
  gl i := (L.gls[i]?).map (·.1)
  cl c := match L.cls[c]? with
    | some (x, none) => some x
    | _ => none
  ex c := match L.cls[c]? with
    | some (x, some _) => some x
    | _ => none
  fd f := L.flds[f]?
  mk_ c := L.mks.lookup c
  df f := match L.fds[f]? with
    | some d => d.df
    | none => []
  mt c f := (L.mts.find? fun p => p.1 == c && p.2.1 == f).map (·.2.2)
  xf f := L.xfs.contains f
  ei := L.ei
def at_ (f : Nat) : Str × Option Str := match L.fds[f]? with
  | some d => d.d.at_
  | none => ("", none)
def kln (k : Nat) : Str := match L.kons[k]? with
  | some p => p.1
  | none => ""
def g (K : PySem.W.Frag) : G where
  cx := none
  K := K
  fa f := He.fAd K (L.at_ f)
  ca c := He.ga K (L.cln c)
  ka k := He.ga K (L.kln k)
  nm := L.nm.fd
  okc c := (L.nm.cl c).isSome
  oke c := (L.nm.ex c).isSome
def tabs : List He.Tab := L.kons.map fun p => ((fun K => He.ga K p.1), p.2.map fun q => (⟨q.1.toArray⟩ : Str))
end Ld
def dvD : He.Dv → D → Bool
  | .non, .non => true
  | .bl a, .bl b => a == b
  | .int a, .int b => decide (a = b)
  | .str a, .str b => decide (a = ⟨b.toArray⟩)
  | _, _ => false
theorem dvD_ok {K : PySem.W.Frag} {g : G} {m : Mp} {H : Hp} {v : He.Dv} {d : D} (h : dvD v d = true) : RD g m H d (v.v K) := by
  unfold dvD at h
  split at h
  · rfl
  · rw [eq_of_beq h]; rfl
  · rw [of_decide_eq_true h]; rfl
  · rw [of_decide_eq_true h]; rfl
  · cases h
def dvB (K : PySem.W.Frag) : Nat → D → Value → Bool
  | _, .non, .none => true
  | _, .bl b, .bool c => b == c
  | _, .int i, .int j _ => decide (i = j)
  | _, .str x, .str y _ => decide (y = ⟨x.toArray⟩)
  | n + 1, .tup ds, .ref a => (match K.lookup a with
    | some ⟨.type c, _, .seq its _, _⟩ => decide (c = "tuple") && decide (its.size ≤ sizeLine) && decide (ds.length = its.toList.length) && ((ds.zip its.toList).all fun p => dvB K n p.1 p.2)
    | _ => false)
  | _, _, _ => false
theorem dvB_ok {K : PySem.W.Frag} {g : G} (hK : g.K = K) : ∀ (n : Nat) (d : D) (u : Value), dvB K n d u = true → ∃ v, RelV v u ∧ ∀ m H, RD g m H d v := by
  have list : ∀ (n : Nat), (∀ (d : D) (u : Value), dvB K n d u = true → ∃ v, RelV v u ∧ ∀ m H, RD g m H d v) → ∀ (ds : List D) (us : List Value), ds.length = us.length → ((ds.zip us).all fun p => dvB K n p.1 p.2) = true → ∃ vs, Vals vs us ∧ ∀ m H, RDs g m H ds vs := by
    intro n hn ds
    induction ds with
    | nil =>
      intro us l _
      have e : us = [] := List.eq_nil_of_length_eq_zero l.symm
      subst e
      exact ⟨[], .nil, fun _ _ => rfl⟩
    | cons d ds ih =>
      intro us l h
      cases us with
      | nil => cases l
      | cons u us =>
        rw [List.zip_cons_cons, List.all_cons, Bool.and_eq_true] at h
        obtain ⟨v, h1, h2⟩ := hn d u h.1
        obtain ⟨vs, h3, h4⟩ := ih us (Nat.succ.inj l) h.2
        exact ⟨v :: vs, .cons h1 h3, fun m H => .cons (h2 m H) (h4 m H)⟩
  intro n
  induction n with
  | zero =>
    intro d u h
    unfold dvB at h
    split at h
    · exact ⟨.non, rfl, fun _ _ => rfl⟩
    · exact ⟨.bl _, by rw [eq_of_beq h]; rfl, fun _ _ => rfl⟩
    · exact ⟨.int _, ⟨_, by rw [of_decide_eq_true h]⟩, fun _ _ => rfl⟩
    · exact ⟨.str _, ⟨_, by rw [of_decide_eq_true h]⟩, fun _ _ => rfl⟩
    · rename_i e; cases e
    · cases h
  | succ n ih =>
    intro d u h
    unfold dvB at h
    split at h
    · exact ⟨.non, rfl, fun _ _ => rfl⟩
    · exact ⟨.bl _, by rw [eq_of_beq h]; rfl, fun _ _ => rfl⟩
    · exact ⟨.int _, ⟨_, by rw [of_decide_eq_true h]⟩, fun _ _ => rfl⟩
    · exact ⟨.str _, ⟨_, by rw [of_decide_eq_true h]⟩, fun _ _ => rfl⟩
    · rename_i e
      cases e
      split at h
      · rename_i lk
        simp only [Bool.and_eq_true, decide_eq_true_eq] at h
        obtain ⟨⟨⟨h1, h2⟩, h3⟩, h4⟩ := h
        obtain ⟨vs, r, k⟩ := list n ih _ _ h3 h4
        refine ⟨.ref _, rfl, fun m' H => ⟨_, vs, rfl, .inr ⟨_, _, _, by rw [hK]; exact lk, by rw [h1], rfl, h2, r⟩, k m' H⟩⟩
      · cases h
    · cases h
def konB (K : PySem.W.Frag) (a : Addr) (kvs : List (List Nat × D)) : Bool := match K.lookup a with
  | some ⟨.type c, _, .dict es _, _⟩ => decide (c = "dict") && decide (es.toList.length = kvs.length) && (es.toList.zip kvs).all fun q => (match q.1.key with
    | .str z _ => decide (z = ⟨q.2.1.toArray⟩)
    | _ => false) && dvB K 5 q.2.2 q.1.val
  | _ => false
theorem konB_find {K : PySem.W.Frag} {g : G} (hK : g.K = K) (x : List Nat) : ∀ (es : List DictEntry) (kvs : List (List Nat × D)), es.length = kvs.length → ((es.zip kvs).all fun q => (match q.1.key with
    | .str z _ => decide (z = ⟨q.2.1.toArray⟩)
    | _ => false) && dvB K 5 q.2.2 q.1.val) = true →
    (es.any (·.refKey)) = false ∧ (match getC kvs (.str x) with
    | some d => ∃ e v, es.find? (·.key.isStr ⟨x.toArray⟩) = some e ∧ RelV v e.val ∧ ∀ m H, RD g m H d v
    | none => es.find? (·.key.isStr ⟨x.toArray⟩) = none)
  | [], [], _, _ => ⟨rfl, rfl⟩
  | [], _ :: _, l, _ => by cases l
  | _ :: _, [], l, _ => by cases l
  | e :: es, q :: kvs, l, h => by
    rw [List.zip_cons_cons, List.all_cons, Bool.and_eq_true] at h
    obtain ⟨h0, h⟩ := h
    obtain ⟨h1, h2⟩ := and2 h0
    obtain ⟨i1, i2⟩ := konB_find hK x es kvs (Nat.succ.inj l) h
    dsimp only at h1 h2
    split at h1
    · rename_i z t ek
      have ez := of_decide_eq_true h1
      have kk : e.key.isStr ⟨x.toArray⟩ = decide (q.1 = x) := by
        rw [ek, ez]
        exact str_eqv q.1 x
      refine ⟨?_, ?_⟩
      · rw [List.any_cons, i1, Bool.or_false]
        unfold DictEntry.refKey
        rw [ek]
      · rw [List.find?_cons, kk]
        by_cases z : q.1 = x
        · have g1 : getC (q :: kvs) (.str x) = some q.2 := by simp [getC, List.find?_cons, z]
          rw [g1, decide_eq_true z]
          obtain ⟨v, r1, r2⟩ := dvB_ok hK 5 _ _ h2
          exact ⟨e, v, rfl, r1, r2⟩
        · have g1 : getC (q :: kvs) (.str x) = getC kvs (.str x) := by simp [getC, List.find?_cons, z]
          rw [g1, decide_eq_false z]
          exact i2
    · cases h1
def oexB (K : PySem.W.Frag) (A0 : Addr) : Bool := (match K.lookup A0 with
  | some ⟨.type c, _, .cls cd, sl⟩ => decide (c = "type") && (match cd.mro, sl.toList with
    | .ref C' :: bm, [_, _, _, _, some (.builtin nn), _] => decide (C' = A0) && decide (nn = "ValueError.__new__") && !cd.hasDel && cd.hasDict && PySem.HandSPX.refsVE bm
    | _, _ => false)
  | _ => false) && He.eqO (PySem.W.findIn K (.ref A0) "__setattr__") (some (some (.builtin "object.__setattr__"))) && decide (PySem.W.subIn K (.ref A0) (.type "BaseException") = some true) && decide (PySem.W.typeIn K (.ref A0) = some (.type "type")) && PySem.W.keepIn K (.ref A0)
theorem oexB_ok {K : PySem.W.Frag} {A0 : Addr} (h : oexB K A0 = true) : OexC K A0 := by
  unfold oexB at h
  obtain ⟨h, h5⟩ := and2 h
  obtain ⟨h, h4⟩ := and2 h
  obtain ⟨h, h3⟩ := and2 h
  obtain ⟨h1, h2⟩ := and2 h
  refine ⟨?_, He.eqO_ok h2, of_decide_eq_true h3, of_decide_eq_true h4, h5⟩
  split at h1
  · rename_i c od cd sl lk
    obtain ⟨k1, k2⟩ := and2 h1
    have k1 := of_decide_eq_true k1
    split at k2
    · rename_i C' bm k0 k1' k2' k3 nn k5 hm hs
      simp only [Bool.and_eq_true, decide_eq_true_eq, Bool.not_eq_true'] at k2
      obtain ⟨⟨⟨⟨q1, q2⟩, q3⟩, q4⟩, q5⟩ := k2
      obtain ⟨nm, bs, mro, ns, qn, hd, sn, sub, ab, col, del⟩ := cd
      dsimp only at hm q3 q4
      subst hm q1 q2 q3 q4 k1
      have hsl : sl = #[k0, k1', k2', k3, some (.builtin "ValueError.__new__"), k5] := by
        obtain ⟨l⟩ := sl
        simp only at hs
        rw [hs]
      subst hsl
      exact ⟨nm, qn, ns, bs, bm, sn, sub, ab, col, od, k0, k1', k2', k3, k5, lk, q5⟩
    · cases k2
  · cases h1
def xiB (y : Str) (N : List Str) (sc : Scope) : List Stmt → Bool
  | [.Assign [.Attribute (.Name s _) y' _] (.Name p _) _] => decide (y' = y) && decide (N = [s, p]) && visB ⟨N, sc, none⟩ s && visB ⟨N, sc, none⟩ p && okN s && okN p
  | _ => false
def scB (N ps : List Str) (sc : Scope) : Bool := (match sc.kind with
  | .function => true
  | _ => false) && !sc.isCoroutine && !sc.isGenerator && decide N.Nodup && decide (N.take ps.length = ps) && (ps.all fun x => locB ⟨N, sc, none⟩ x) && (sc.names.all fun y => match y.2 with
  | .free => false
  | _ => true)
theorem scB_ok {N ps : List Str} {sc : Scope} (h : scB N ps sc = true) : FnScope N ps sc := by
  unfold scB at h
  obtain ⟨h, h7⟩ := and2 h
  obtain ⟨h, h6⟩ := and2 h
  obtain ⟨h, h5⟩ := and2 h
  obtain ⟨h, h4⟩ := and2 h
  obtain ⟨h, h3⟩ := and2 h
  obtain ⟨h1, h2⟩ := and2 h
  rw [Bool.not_eq_true'] at h2 h3
  refine ⟨?_, h2, h3, of_decide_eq_true h4, of_decide_eq_true h5, fun x hx => ?_, fun y hy e => ?_⟩
  · split at h1
    · assumption
    · cases h1
  · have q := List.all_eq_true.mp h6 x hx
    unfold locB at q
    split at q
    · exact .inl (by assumption)
    · exact .inr (by assumption)
    · cases q
  · have q := List.all_eq_true.mp h7 y hy
    rw [e] at q
    cases q
def paB (ps : List Str) (a : Arguments) : Bool := a.posonlyargs.isEmpty && decide (a.args.map (·.arg) = ps) && a.kwonlyargs.isEmpty && a.vararg.isNone && a.kwarg.isNone
theorem paB_ok {K : PySem.W.Frag} {ps N : List Str} {x qual : Str} {a : Arguments} {body : List Stmt} {sc : Scope} {f : Addr} {fd : FuncData} (F : FunD K x qual a body sc [] [] f fd) (Sc : FnScope N ps sc) (h : paB ps a = true) : Binds K fd ps [] := by
  unfold paB at h
  obtain ⟨h, h5⟩ := and2 h
  obtain ⟨h, h4⟩ := and2 h
  obtain ⟨h, h3⟩ := and2 h
  obtain ⟨h1, h2⟩ := and2 h
  have nd : ps.Nodup := by
    rw [← Sc.pre]
    exact List.Sublist.nodup (List.take_sublist _ _) Sc.nd
  exact F.bindsN fun kV doc pm an cdv ct us hl => bind_gen (List.isEmpty_iff.mp h1) (of_decide_eq_true h2) (List.isEmpty_iff.mp h3) (Option.isNone_iff_eq_none.mp h4) (Option.isNone_iff_eq_none.mp h5) rfl nd hl
theorem paB_any {K : PySem.W.Frag} {ps N : List Str} {x qual : Str} {a : Arguments} {body : List Stmt} {sc : Scope} {f : Addr} {fd : FuncData} (F : FunD K x qual a body sc [] [] f fd) (Sc : FnScope N ps sc) (h : paB ps a = true) (s : Shared) (us : List Value) (hl : us.length = ps.length) : BindsTo s fd ⟨us, []⟩ (ps.zip us) := by
  unfold paB at h
  obtain ⟨h, h5⟩ := and2 h
  obtain ⟨h, h4⟩ := and2 h
  obtain ⟨h, h3⟩ := and2 h
  obtain ⟨h1, h2⟩ := and2 h
  have nd : ps.Nodup := by
    rw [← Sc.pre]
    exact List.Sublist.nodup (List.take_sublist _ _) Sc.nd
  exact F.bindsA (fun kV doc pm an cdv ct us hl => bind_gen (List.isEmpty_iff.mp h1) (of_decide_eq_true h2) (List.isEmpty_iff.mp h3) (Option.isNone_iff_eq_none.mp h4) (Option.isNone_iff_eq_none.mp h5) rfl nd hl) s us hl
theorem xi_fn {P : Program} {w : World} {K : PySem.W.Frag} {mg : Str → Option Value} {base : Heap} {x qual y : Str} {a : Arguments} {body : List Stmt} {sc : Scope} {f A0 : Addr} {fd : FuncData} {N ps : List Str} {dvs : List V} {kws : List (Str × V)} (F : FunD K x qual a body sc dvs kws f fd) (Sc : FnScope N ps sc)
    (hN : ps = N) (h : xiB y N sc body = true) (T0 : OexC K A0) (na : PySem.W.findIn K (.ref A0) y = some none) : FnOk P w K mg base (L2.CX P w) 1 f fd ps (spX K A0 y) := by
  unfold xiB at h
  split at h
  · rename_i s p1 y' p2 p p3 pos
    obtain ⟨h, h6⟩ := and2 h
    obtain ⟨h, h5⟩ := and2 h
    obtain ⟨h, h4⟩ := and2 h
    obtain ⟨h, h3⟩ := and2 h
    obtain ⟨h1, h2⟩ := and2 h
    have h1 := of_decide_eq_true h1
    have h2 := of_decide_eq_true h2
    subst h1 hN h2
    have vis : ∀ z, visB ⟨[s, p], sc, none⟩ z = true → Vis sc z := fun z hz => by
      unfold visB at hz
      split at hz
      · exact .inl (by assumption)
      · exact .inr (.inl (by assumption))
      · exact .inr (.inr (by assumption))
      · cases hz
    refine F.ok (k := 0) Sc (fun vs H Q E z => ?_) fun cdv A outer st H vs Q E hr z => ?_
    · obtain ⟨a, v, rfl, _⟩ := z
      rfl
    · obtain ⟨a, v, rfl, ea, z⟩ := z
      exact ⟨_, pss_one (ps_ost (pe_var (i := 0) rfl (vis s h3) (okN_1 h5) (okN_2 h5)) (pe_var (i := 1) rfl (vis p h4) (okN_1 h6) (okN_2 h6))), v, rfl, .ref a, rfl, a, A0, rfl, T0, na, .inl ⟨ea, fun dx nd ne => z dx nd ne⟩⟩
  · cases h
end Y
set_option linter.all false
set_option maxHeartbeats 4000000
set_option maxRecDepth 100000
namespace Y
open PySem PySem.Spec PyProof.Rows L2 RZ
def allTys : List Ty := [.int, .str, .bool, .tuple, .list, .dict]
namespace Ld
variable (L : Ld)
def ownB (K : PySem.W.Frag) (c : Nat) (x : Str) : Bool := (He.Fa.cls x).ok K && He.eqO (PySem.W.findIn K (.ref (He.ga K x)) "__class__") (some (some (.builtin "object.__class__"))) && decide (PySem.W.mroIn K (He.ga K x) (.type "object") = some true) &&
  (L.flds.all fun y => (He.Fa.noat x y).ok K) &&
  (allTys.all fun t => decide (PySem.W.kitOne K (.ref (He.ga K x)) (tyV1 (L.g K) t) = some (isTy L.tab (some (.own c)) t))) &&
  ((List.range L.cls.length).all fun d => match L.nm.cl d with
    | none => true
    | some _ => decide (PySem.W.kitOne K (.ref (He.ga K x)) (.ref ((L.g K).ca d)) = some (L.tab.sub c d))) &&
  (["NoneType", "bool", "int", "str", "tuple", "list", "dict"].all fun t => decide (PySem.W.kitOne K (.type t) (.ref (He.ga K x)) = some false))
def clsB (K : PySem.W.Frag) : Bool := (List.range L.cls.length).all fun c => match L.cls[c]? with
  | none => true
  | some (x, k) => (He.Fa.glo x).ok K && (match k with
    | none => L.ownB K c x
    | some k => (match k with
      | none => (He.Fa.exc x).ok K
      | some f => oexB K (He.ga K x) && (match L.flds[f]? with
        | some y => (He.Fa.noat x y).ok K
        | none => false)) && ((List.range L.cls.length).all fun d => match L.nm.ex d with
          | none => true
          | some y => (He.Fa.exm x y (L.tab.sub c d)).ok K))
def desB (K : PySem.W.Frag) : Bool := decide (PySem.W.specialIn K (.builtin "object.__class__") "__get__" = some (some (.builtin "getset_descriptor.__get__"))) && decide (PySem.W.takesIn K (.builtin "object.__class__") = some true)
def xfsB (K : PySem.W.Frag) : Bool := (List.range L.cls.length).all fun c => match L.nm.ex c with
  | none => true
  | some x => L.xfs.isEmpty || (xfB K (He.ga K x) && L.xfs.all fun f => match L.flds[f]? with
    | some y => He.eqO (PySem.W.findIn K (.ref (He.ga K x)) y) (some none)
    | none => false)
def xcB (K : PySem.W.Frag) (C : Addr) : Bool := He.eqO (PySem.W.findIn K (.ref C) "__getattribute__") (some (some (.builtin "BaseException.__getattribute__"))) && He.eqO (PySem.W.findIn K (.ref C) "__getattr__") (some none) && decide (PySem.W.subIn K (.ref C) (.type "BaseException") = some true) && PySem.W.hasDictIn K C && He.eqO (PySem.W.findIn K (.ref C) "__class__") (some (some (.builtin "object.__class__"))) && He.eqO (PySem.W.specialIn K (.builtin "object.__class__") "__get__") (some (some (.builtin "getset_descriptor.__get__"))) && decide (PySem.W.takesIn K (.builtin "object.__class__") = some true) && decide (PySem.W.mroIn K C (.type "object") = some true)
theorem xcB_ok {K : PySem.W.Frag} {C : Addr} (h : xcB K C = true) : ExcC K C := by
  unfold xcB at h
  obtain ⟨h, h8⟩ := and2 h
  obtain ⟨h, h7⟩ := and2 h
  obtain ⟨h, h6⟩ := and2 h
  obtain ⟨h, h5⟩ := and2 h
  obtain ⟨h, h4⟩ := and2 h
  obtain ⟨h, h3⟩ := and2 h
  obtain ⟨h1, h2⟩ := and2 h
  exact ⟨He.eqO_ok h1, He.eqO_ok h2, of_decide_eq_true h3, h4, He.eqO_ok h5, He.eqO_ok h6, of_decide_eq_true h7, of_decide_eq_true h8⟩
def xeB (K : PySem.W.Frag) : Bool := !L.ei || (List.range L.cls.length).all fun c => match L.nm.ex c with
  | none => true
  | some x => xcB K (He.ga K x) && decide (PySem.W.kitOne K (.ref (He.ga K x)) (.type "ValueError") = some true) && (List.range L.cls.length).all fun d => match L.nm.ex d with
    | none => true
    | some _ => decide (PySem.W.kitOne K (.ref (He.ga K x)) (.ref ((L.g K).ca d)) = some (L.tab.sub c d))
def facts (K : PySem.W.Frag) : Bool := (bltNames.all fun x => (He.Fa.free x).ok K) &&
  (L.fds.all fun d => match d.d.at_.2 with
    | none => (He.Fa.glo d.d.at_.1).ok K
    | some _ => true) &&
  (L.gls.all fun p => match p.2 with
    | .kon k => decide ((L.kons[k]?).map (·.1) = some p.1) && (He.Fa.glo p.1).ok K
    | _ => (match PySem.W.nsIn K mainGlobals p.1 with
      | some (some u) => dvB K 5 p.2 u
      | _ => false)) &&
  L.clsB K && ((!L.cls.any fun p => p.2.isNone) || desB K) &&
  (L.mts.all fun p => (He.Fa.meth (L.cln p.1) p.2.2).ok K) &&
  (L.mks.all fun p => (He.Fa.mkr (L.cln p.1)).ok K) &&
  (L.xis.all fun p => decide (PySem.W.typeIn K (.ref (He.fAd K p.2.1.at_)) = some (.type "function")) && He.eqO (PySem.W.findIn K (.ref (He.ga K (L.cln p.1))) "__init__") (some (some (.ref (He.fAd K p.2.1.at_))))) &&
  (L.kons.all fun p => konB K (He.ga K p.1) p.2) && L.xfsB K && L.xeB K
def stat : Bool := decide L.flds.Nodup && (L.fds.all fun d => scB d.N d.ps d.d.scope && paB d.ps d.d.params && ((d.d.dfl.isEmpty && d.df.isEmpty) || (match d.d.dfl, d.df with
    | [v], [x] => dvD v x && !d.ps.isEmpty
    | _, _ => false)) && d.d.kwd.isEmpty && true && decide (d.ps.length = d.fn.np) && decide (d.N.length = d.fn.ns) && ckB L.nm d.fn.body ⟨d.N, d.d.scope, none⟩ d.d.body) &&
  (L.mts.all fun p => decide (L.at_ p.2.1 = (L.cln p.1, some p.2.2)) && !(L.flds.contains p.2.2)) &&
  (L.mks.all fun p => decide (L.at_ p.2 = (L.cln p.1, some ("__init__" : Str)))) &&
  ((List.range L.cls.length).all fun c => match L.cls[c]? with
    | some (_, some (some f)) => (match L.xis.lookup c with
      | some (d, s, p) => (match L.flds[f]? with
        | some y => scB [s, p] [s, p] d.scope && paB [s, p] d.params && d.dfl.isEmpty && d.kwd.isEmpty && xiB y [s, p] d.scope d.body
        | none => false)
      | none => false)
    | _ => true)
def defs : List He.DefD := L.fds.map (·.d) ++ L.xis.map (·.2.1)
end Ld
section
variable {L : Ld} {K : PySem.W.Frag} {h : Heap} {mg : Str → Option Value} {P : Program} {w : World}
theorem range_all {k : Nat} {p : Nat → Bool} (h : (List.range k).all p = true) {i : Nat} (l : i < k) : p i = true := List.all_eq_true.mp h i (List.mem_range.mpr l)
theorem cl_of {c : Nat} {x : Str} (e : L.nm.cl c = some x) : L.cls[c]? = some (x, none) := by
  unfold Ld.nm at e
  dsimp only at e
  split at e
  · cases e
    assumption
  · cases e
theorem ex_of {c : Nat} {x : Str} (e : L.nm.ex c = some x) : ∃ k, L.cls[c]? = some (x, some k) := by
  unfold Ld.nm at e
  dsimp only at e
  split at e
  · cases e
    exact ⟨_, by assumption⟩
  · cases e
theorem cln_of {c : Nat} {p : Str × Option (Option Nat)} (e : L.cls[c]? = some p) : L.cln c = p.1 := by
  unfold Ld.cln
  rw [e]
theorem lt_of {α : Type} {l : List α} {i : Nat} {x : α} (e : l[i]? = some x) : i < l.length := (List.getElem?_eq_some_iff.mp e).1
theorem nodup_ix : ∀ {l : List Str}, l.Nodup → ∀ {i j : Nat} {x : Str}, l[i]? = some x → l[j]? = some x → i = j
  | [], _, _, _, _, h, _ => by simp at h
  | a :: l, nd, 0, 0, x, _, _ => rfl
  | a :: l, nd, 0, j + 1, x, h1, h2 => by
    have e : a = x := by simpa using h1
    subst e
    exact absurd (List.mem_of_getElem? (by simpa using h2)) (List.nodup_cons.mp nd).1
  | a :: l, nd, i + 1, 0, x, h1, h2 => by
    have e : a = x := by simpa using h2
    subst e
    exact absurd (List.mem_of_getElem? (by simpa using h1)) (List.nodup_cons.mp nd).1
  | a :: l, nd, i + 1, j + 1, x, h1, h2 => congrArg Nat.succ (nodup_ix (List.nodup_cons.mp nd).2 (by simpa using h1) (by simpa using h2))
theorem mt_mem {c f : Nat} {x : Str} (e : L.nm.mt c f = some x) : (c, f, x) ∈ L.mts := by
  unfold Ld.nm at e
  dsimp only at e
  obtain ⟨p, h1, h2⟩ := Option.map_eq_some_iff.mp e
  have hm := List.mem_of_find?_eq_some h1
  have hp := List.find?_some h1
  rw [Bool.and_eq_true] at hp
  obtain ⟨a, b, y⟩ := p
  have e1 : a = c := eq_of_beq hp.1
  have e2 : b = f := eq_of_beq hp.2
  subst e1 e2 h2
  exact hm
theorem top_at (X : K.In h) (G0 : h.Ns mainGlobals mg) (hf : L.facts K = true) (hs : L.stat = true) (hd : ∀ f x, L.nm.fn f = some x → PySem.W.keepIn K (.ref ((L.g K).fa f)) = true) : TopAt (L.g K) L.tab L.nm mg := by
  unfold Ld.facts at hf
  obtain ⟨hf, f11⟩ := and2 hf
  obtain ⟨hf, f10⟩ := and2 hf
  obtain ⟨hf, f9⟩ := and2 hf
  obtain ⟨hf, f8⟩ := and2 hf
  obtain ⟨hf, f7⟩ := and2 hf
  obtain ⟨hf, f6⟩ := and2 hf
  obtain ⟨hf, f5⟩ := and2 hf
  obtain ⟨hf, f4⟩ := and2 hf
  obtain ⟨hf, f3⟩ := and2 hf
  obtain ⟨f1, f2⟩ := and2 hf
  unfold Ld.stat at hs
  obtain ⟨hs, s5⟩ := and2 hs
  obtain ⟨hs, s4⟩ := and2 hs
  obtain ⟨hs, s3⟩ := and2 hs
  obtain ⟨s1, s2⟩ := and2 hs
  have clf : ∀ {c : Nat} {p : Str × Option (Option Nat)}, L.cls[c]? = some p → (He.Fa.glo p.1).ok K = true ∧ (match p.2 with
    | none => L.ownB K c p.1
    | some k => (match k with
      | none => (He.Fa.exc p.1).ok K
      | some f => oexB K (He.ga K p.1) && (match L.flds[f]? with
        | some y => (He.Fa.noat p.1 y).ok K
        | none => false)) && ((List.range L.cls.length).all fun d => match L.nm.ex d with
          | none => true
          | some y => (He.Fa.exm p.1 y (L.tab.sub c d)).ok K)) = true := fun {c p} e => by
    have q := range_all f4 (lt_of e)
    rw [e] at q
    obtain ⟨x, k⟩ := p
    exact and2 q
  have own : ∀ {c : Nat} {x : Str}, L.nm.cl c = some x → L.ownB K c x = true := fun {c x} e => (clf (cl_of e)).2
  refine ⟨rfl, fun _ => rfl, fun _ => rfl, fun c x e => ?_, fun c c' x x' e e' => ?_, fun c x e e' => ?_, fun i d x e e' => ?_, fun x hx => ?_, fun f x e => ?_, fun c x e => ?_, fun c x f y e e' => ?_, fun c f x k e e' => ?_, fun c f e => ?_, fun c f x e => ?_, fun c x t e ht => ?_, fun c x f y e e1 e2 => ?_, fun ei c x e => ?_, fun c x t e ht => ?_⟩
  · obtain ⟨k, q⟩ := ex_of e
    show mg x = some (.ref (He.ga K (L.cln c)))
    rw [cln_of q]
    exact He.glo_ok X G0 (clf q).1
  · obtain ⟨k, q⟩ := ex_of e
    obtain ⟨k', q'⟩ := ex_of e'
    have z := range_all (and2 (clf q).2).2 (lt_of q')
    rw [e'] at z
    show PySem.W.exmOne K (.ref (He.ga K (L.cln c))) (.ref (He.ga K (L.cln c'))) = some (L.tab.sub c c')
    rw [cln_of q, cln_of q']
    exact of_decide_eq_true z
  · obtain ⟨k, q⟩ := ex_of e
    have ek : k = none := by
      have e' : (match L.cls[c]? with
        | some (_, some f) => some f
        | _ => none) = some none := e'
      rw [q] at e'
      exact Option.some.inj e'
    subst ek
    have z := (and2 (clf q).2).1
    have z : (PySem.W.excIn K (He.ga K x) He.veBase "ValueError.__new__" && (PySem.W.keepIn K (.ref (He.ga K x)) && (decide (PySem.W.subIn K (.ref (He.ga K x)) (.type "BaseException") = some true) && decide (PySem.W.typeIn K (.ref (He.ga K x)) = some (.type "type"))))) = true := z
    obtain ⟨z1, z2⟩ := and2 z
    obtain ⟨z2, z3⟩ := and2 z2
    obtain ⟨z3, z4⟩ := and2 z3
    show (∃ bm, _ ∧ PySem.W.excIn K (He.ga K (L.cln c)) bm "ValueError.__new__" = true) ∧ PySem.W.keepIn K (.ref (He.ga K (L.cln c))) = true ∧ PySem.W.subIn K (.ref (He.ga K (L.cln c))) (.type "BaseException") = some true ∧ PySem.W.typeIn K (.ref (He.ga K (L.cln c))) = some (.type "type")
    rw [cln_of q]
    exact ⟨⟨_, PySem.F.excBase_ValueError, z1⟩, z2, of_decide_eq_true z3, of_decide_eq_true z4⟩
  · have e : (L.gls[i]?).map (·.2) = some d := e
    have e' : (L.gls[i]?).map (·.1) = some x := e'
    obtain ⟨p, h1, h2⟩ := Option.map_eq_some_iff.mp e
    rw [h1] at e'
    cases e'
    subst h2
    have q := List.all_eq_true.mp f3 p (List.mem_of_getElem? h1)
    split at q
    · rename_i k ek
      obtain ⟨q1, q2⟩ := and2 q
      obtain ⟨p', e1, e2⟩ := Option.map_eq_some_iff.mp (of_decide_eq_true q1)
      refine ⟨.ref (He.ga K p.1), .ref (He.ga K p.1), He.glo_ok X G0 q2, rfl, fun m H => ?_⟩
      rw [ek]
      show V.ref (He.ga K p.1) = .ref (He.ga K (L.kln k))
      unfold Ld.kln
      rw [e1]
      dsimp only
      rw [e2]
    split at q
    · rename_i u eu
      obtain ⟨v, r, k⟩ := dvB_ok (g := L.g K) rfl 5 _ _ q
      exact ⟨u, v, PySem.W.mg_of X G0 eu, r, k⟩
    · cases q
  · exact He.free_ok X G0 (List.all_eq_true.mp f1 x hx)
  · refine ⟨?_, hd f x e⟩
    have e : (match L.fds[f]? with
      | some d => (match d.d.at_.2 with
        | none => some d.d.at_.1
        | some _ => none)
      | none => none) = some x := e
    split at e
    · rename_i d hd'
      split at e
      · rename_i e2
        cases e
        have q := List.all_eq_true.mp f2 d (List.mem_of_getElem? hd')
        rw [e2] at q
        have z := He.glo_ok X G0 q
        have ea : (L.g K).fa f = He.ga K d.d.at_.1 := by
          show He.fAd K (L.at_ f) = _
          unfold Ld.at_
          rw [hd']
          unfold He.fAd
          dsimp only
          rw [e2]
        rw [ea]
        exact z
      · cases e
    · cases e
  · have q := cl_of e
    have o := own e
    unfold Ld.ownB at o
    obtain ⟨o, o7⟩ := and2 o
    obtain ⟨o, o6⟩ := and2 o
    obtain ⟨o, o5⟩ := and2 o
    obtain ⟨o, o4⟩ := and2 o
    obtain ⟨o, o3⟩ := and2 o
    obtain ⟨o1, o2⟩ := and2 o
    have ce : (L.g K).ca c = He.ga K x := by
      show He.ga K (L.cln c) = _
      rw [cln_of q]
    rw [ce]
    have des : Ld.desB K = true := by
      rcases (Bool.or_eq_true _ _).mp f5 with z | z
      · have any : (L.cls.any fun p => p.2.isNone) = true := List.any_eq_true.mpr ⟨_, List.mem_of_getElem? q, rfl⟩
        rw [any] at z
        cases z
      · exact z
    obtain ⟨d1, d2⟩ := and2 des
    have o1 : (PySem.W.plainGet K (He.ga K x) Str.empty && (PySem.W.hasDictIn K (He.ga K x) && (PySem.W.plainOver K (He.ga K x) && He.eqO (PySem.W.findIn K (.ref (He.ga K x)) "__setattr__") (some (some (.builtin "object.__setattr__")))))) = true := o1
    obtain ⟨p1, p2⟩ := and2 o1
    obtain ⟨p2, p3⟩ := and2 p2
    obtain ⟨p3, p4⟩ := and2 p3
    exact ⟨He.glo_ok X G0 (clf q).1, ⟨p1, p2, p3, He.eqO_ok p4⟩, He.eqO_ok o2, of_decide_eq_true d1, of_decide_eq_true d2, of_decide_eq_true o3⟩
  · have q := cl_of e
    have o := own e
    unfold Ld.ownB at o
    obtain ⟨o, o7⟩ := and2 o
    obtain ⟨o, o6⟩ := and2 o
    obtain ⟨o, o5⟩ := and2 o
    obtain ⟨o, o4⟩ := and2 o
    show PySem.W.findIn K (.ref (He.ga K (L.cln c))) y = some none
    rw [cln_of q]
    exact He.eqO_ok (List.all_eq_true.mp o4 y (List.mem_of_getElem? e'))
  · have q := and2 (List.all_eq_true.mp s3 _ (mt_mem e))
    have z := q.2
    rw [Bool.not_eq_true'] at z
    have m : L.flds.contains x = true := by
      rw [List.contains_iff_mem]
      exact List.mem_of_getElem? e'
    rw [m] at z
    cases z
  · have m := lookup_mem e
    have q := List.all_eq_true.mp f7 _ m
    have a := of_decide_eq_true (List.all_eq_true.mp s4 _ m)
    have q : (PySem.W.makesIn K (He.ga K (L.cln c)) && (He.eqO (PySem.W.findIn K (.ref (He.ga K (L.cln c))) "__init__") (some (some (.ref (He.ma K (He.ga K (L.cln c)) "__init__")))) && (PySem.W.isFn K (.ref (He.ma K (He.ga K (L.cln c)) "__init__")) && PySem.W.keepIn K (.ref (He.ga K (L.cln c)))))) = true := q
    obtain ⟨q1, q2⟩ := and2 q
    obtain ⟨q2, q3⟩ := and2 q2
    obtain ⟨q3, q4⟩ := and2 q3
    have ea : (L.g K).fa f = He.ma K (He.ga K (L.cln c)) "__init__" := by
      show He.fAd K (L.at_ f) = _
      rw [a]
      rfl
    rw [ea]
    exact ⟨q1, He.eqO_ok q2, q3, q4⟩
  · have m := mt_mem e
    have q := List.all_eq_true.mp f6 _ m
    have a := of_decide_eq_true (and2 (List.all_eq_true.mp s3 _ m)).1
    have q : (He.eqO (PySem.W.findIn K (.ref (He.ga K (L.cln c))) x) (some (some (.ref (He.ma K (He.ga K (L.cln c)) x)))) && (PySem.W.isFn K (.ref (He.ma K (He.ga K (L.cln c)) x)) && PySem.W.keepIn K (.ref (He.ma K (He.ga K (L.cln c)) x)))) = true := q
    obtain ⟨q1, q2⟩ := and2 q
    obtain ⟨q2, q3⟩ := and2 q2
    have ea : (L.g K).fa f = He.ma K (He.ga K (L.cln c)) x := by
      show He.fAd K (L.at_ f) = _
      rw [a]
      rfl
    rw [ea]
    exact ⟨He.eqO_ok q1, q2, q3⟩
  · have q := cl_of e
    have o := own e
    unfold Ld.ownB at o
    obtain ⟨o, o7⟩ := and2 o
    obtain ⟨o, o6⟩ := and2 o
    obtain ⟨o, o5⟩ := and2 o
    show PySem.W.kitOne K (.ref (He.ga K (L.cln c))) _ = _
    rw [cln_of q]
    by_cases z : ∃ d, t = .own d
    · obtain ⟨d, rfl⟩ := z
      obtain ⟨y, hy⟩ := Option.isSome_iff_exists.mp (ht d rfl)
      have w := range_all o6 (lt_of (cl_of hy))
      rw [hy] at w
      exact of_decide_eq_true w
    · have mem : t ∈ allTys := by
        cases t <;> first | (unfold allTys; simp; done) | exact absurd ⟨_, rfl⟩ z
      exact of_decide_eq_true (List.all_eq_true.mp o5 t mem)
  · obtain ⟨k, q⟩ := ex_of e
    have z := range_all f10 (lt_of q)
    rw [e] at z
    have z : (L.xfs.isEmpty || (xfB K (He.ga K x) && L.xfs.all fun f => match L.flds[f]? with
      | some y => He.eqO (PySem.W.findIn K (.ref (He.ga K x)) y) (some none)
      | none => false)) = true := z
    have mem : f ∈ L.xfs := List.contains_iff_mem.mp e1
    have ne : L.xfs.isEmpty = false := by
      cases h : L.xfs with
      | nil => rw [h] at mem; cases mem
      | cons _ _ => rfl
    rw [ne, Bool.false_or] at z
    obtain ⟨z1, z2⟩ := and2 z
    have z3 := List.all_eq_true.mp z2 f mem
    have e2 : L.flds[f]? = some y := e2
    rw [e2] at z3
    have cc : (L.g K).ca c = He.ga K x := by
      show He.ga K (L.cln c) = _
      rw [cln_of q]
    rw [cc]
    exact ⟨xfB_ok z1, He.eqO_ok z3⟩
  · have ei : L.ei = true := ei
    unfold Ld.xeB at f11
    rw [ei, Bool.not_true, Bool.false_or] at f11
    obtain ⟨k, q⟩ := ex_of e
    have z := range_all f11 (lt_of q)
    rw [e] at z
    obtain ⟨z, z3⟩ := and2 z
    obtain ⟨z1, z2⟩ := and2 z
    have cc : (L.g K).ca c = He.ga K x := by
      show He.ga K (L.cln c) = _
      rw [cln_of q]
    rw [cc]
    refine ⟨Ld.xcB_ok z1, of_decide_eq_true z2, fun d y ed => ?_⟩
    obtain ⟨k', q'⟩ := ex_of ed
    have w := range_all z3 (lt_of q')
    rw [ed] at w
    exact of_decide_eq_true w
  · have q := cl_of e
    have o := own e
    unfold Ld.ownB at o
    obtain ⟨o, o7⟩ := and2 o
    show PySem.W.kitOne K _ (.ref (He.ga K (L.cln c))) = _
    rw [cln_of q]
    exact of_decide_eq_true (List.all_eq_true.mp o7 t ht)
theorem df_at (hs : L.stat = true) (hd : ∀ d ∈ L.defs, ∃ fd, FunD K d.name d.qual d.params d.body d.scope (d.dvs K) (d.kws K) (He.fAd K d.at_) fd) {f : Nat} {fn : Fn} (e : L.tab.fn f = some fn) : DefAt (L.g K) L.nm f fn := by
  have e : (L.fds[f]?).map (·.fn) = some fn := e
  obtain ⟨d, h1, h2⟩ := Option.map_eq_some_iff.mp e
  subst h2
  unfold Ld.stat at hs
  obtain ⟨hs, s5⟩ := and2 hs
  obtain ⟨hs, s4⟩ := and2 hs
  obtain ⟨hs, s3⟩ := and2 hs
  obtain ⟨s1, s2⟩ := and2 hs
  have q := List.all_eq_true.mp s2 d (List.mem_of_getElem? h1)
  obtain ⟨q, k8⟩ := and2 q
  obtain ⟨q, k7⟩ := and2 q
  obtain ⟨q, k6⟩ := and2 q
  obtain ⟨q, k5⟩ := and2 q
  obtain ⟨q, k4⟩ := and2 q
  obtain ⟨q, k3⟩ := and2 q
  obtain ⟨k1, k2⟩ := and2 q
  obtain ⟨fd, F⟩ := hd d.d (List.mem_append_left _ (List.mem_map_of_mem (List.mem_of_getElem? h1)))
  have e2 : d.d.kws K = [] := by unfold He.DefD.kws; rw [List.isEmpty_iff.mp k4]; rfl
  rw [e2] at F
  have ea : He.fAd K d.d.at_ = (L.g K).fa f := by
    show _ = He.fAd K (L.at_ f)
    unfold Ld.at_
    rw [h1]
  rw [ea] at F
  have Sc := scB_ok k1
  have en : L.nm.df f = d.df := by
    show (match L.fds[f]? with
      | some d => d.df
      | none => []) = _
    rw [h1]
  rcases (Bool.or_eq_true _ _).mp k3 with k3 | k3
  · obtain ⟨k3, k9⟩ := and2 k3
    have e1 : d.d.dvs K = [] := by unfold He.DefD.dvs; rw [List.isEmpty_iff.mp k3]; rfl
    rw [e1] at F
    refine ⟨_, _, _, _, _, d.N, d.ps, [], [], fd, F, Sc, of_decide_eq_true k6, of_decide_eq_true k7, k8, paB_ok F Sc k2, fun ne => absurd ?_ ne⟩
    rw [en]
    exact List.isEmpty_iff.mp k9
  · split at k3
    · rename_i v y ev ey
      obtain ⟨k3, k9⟩ := and2 k3
      have e1 : d.d.dvs K = [v.v K] := by unfold He.DefD.dvs; rw [ev]; rfl
      rw [e1] at F
      have pa := k2
      unfold paB at pa
      obtain ⟨pa, p5⟩ := and2 pa
      obtain ⟨pa, p4⟩ := and2 pa
      obtain ⟨pa, p3⟩ := and2 pa
      obtain ⟨p1, p2⟩ := and2 pa
      have nd : d.ps.Nodup := by
        rw [← Sc.pre]
        exact List.Sublist.nodup (List.take_sublist _ _) Sc.nd
      obtain ⟨b1, ds, b2, b3⟩ := binds_one F (by intro z; rw [z] at k9; cases k9) nd (List.isEmpty_iff.mp p1) (of_decide_eq_true p2) (List.isEmpty_iff.mp p3) (Option.isNone_iff_eq_none.mp p4) (Option.isNone_iff_eq_none.mp p5)
      refine ⟨_, _, _, _, _, d.N, d.ps, _, [], fd, F, Sc, of_decide_eq_true k6, of_decide_eq_true k7, k8, b1, fun _ => ⟨ds, _, b2, b3, fun m H => ?_⟩⟩
      rw [en, ey]
      exact .one (dvD_ok k3)
    · cases k3
theorem kon_at (hf : L.facts K = true) (hk : ∀ p ∈ L.kons, ∃ es n, KDict K w (He.ga K p.1) es n) {k : Nat} (z : L.tab.kon k ≠ []) : KonAt (L.g K) L.tab w k := by
  unfold Ld.facts at hf
  obtain ⟨hf, _⟩ := and2 hf
  obtain ⟨hf, f10⟩ := and2 hf
  obtain ⟨hf, f9⟩ := and2 hf
  have ek : L.tab.kon k = (match L.kons[k]? with
    | some p => p.2
    | none => []) := rfl
  cases e : L.kons[k]? with
  | none =>
    rw [ek, e] at z
    exact absurd rfl z
  | some p =>
    have mem := List.mem_of_getElem? e
    have ea : (L.g K).ka k = He.ga K p.1 := by
      show He.ga K (L.kln k) = _
      unfold Ld.kln
      rw [e]
    have ev : L.tab.kon k = p.2 := by rw [ek, e]
    obtain ⟨es, n, D1⟩ := hk p mem
    refine ⟨⟨es, n, by rw [ea]; exact D1⟩, fun x => ?_, ⟨_, by rw [ea]; exact D1.at_, rfl⟩⟩
    have q := List.all_eq_true.mp f9 p mem
    unfold konB at q
    rw [D1.at_] at q
    obtain ⟨q, q3⟩ := and2 q
    obtain ⟨_, q2⟩ := and2 q
    obtain ⟨i1, i2⟩ := konB_find (g := L.g K) rfl x es.toList p.2 (of_decide_eq_true q2) q3
    rw [ea, ev]
    show ∃ r, PySem.W.nsIn K (He.ga K p.1) _ = some r ∧ _
    unfold PySem.W.nsIn
    rw [D1.at_]
    dsimp only
    cases c : getC p.2 (.str x) with
    | none =>
      rw [c] at i2
      rw [show es.toList.find? _ = none from i2]
      dsimp only
      rw [i1]
      exact ⟨none, rfl, rfl⟩
    | some d =>
      rw [c] at i2
      obtain ⟨e', v, j1, j2, j3⟩ := i2
      rw [j1]
      exact ⟨_, rfl, _, v, rfl, j2, j3⟩
theorem top_ok {base : Heap} (hk : ∀ p ∈ L.kons, ∃ es n, KDict K w (He.ga K p.1) es n) (X : K.In h) (G0 : h.Ns mainGlobals mg) (hf : L.facts K = true) (hs : L.stat = true) (hd : ∀ d ∈ L.defs, ∃ fd, FunD K d.name d.qual d.params d.body d.scope (d.dvs K) (d.kws K) (He.fAd K d.at_) fd) : TopOk (L.g K) L.tab L.nm P w mg base := by
  have hf0 := hf
  have hs0 := hs
  unfold Ld.facts at hf
  obtain ⟨hf, _⟩ := and2 hf
  obtain ⟨hf, f10⟩ := and2 hf
  obtain ⟨hf, f9⟩ := and2 hf
  obtain ⟨hf, f8⟩ := and2 hf
  obtain ⟨hf, f7⟩ := and2 hf
  obtain ⟨hf, f6⟩ := and2 hf
  obtain ⟨hf, f5⟩ := and2 hf
  obtain ⟨hf, f4⟩ := and2 hf
  unfold Ld.stat at hs
  obtain ⟨hs, s5⟩ := and2 hs
  obtain ⟨hs, s4⟩ := and2 hs
  obtain ⟨hs, s3⟩ := and2 hs
  obtain ⟨s1, s2⟩ := and2 hs
  refine ⟨top_at X G0 hf0 hs0 fun f x e => ?_, ⟨fun k z => kon_at hf0 hk z, fun f f' x e e' => nodup_ix (of_decide_eq_true s1) e e'⟩, ⟨fun c x f y e e' e2 => ?_, fun c x f e e' => ?_⟩, fun f fn e => df_at hs0 hd e, rfl⟩
  · have e : (match L.fds[f]? with
      | some d => (match d.d.at_.2 with
        | none => some d.d.at_.1
        | some _ => none)
      | none => none) = some x := e
    split at e
    · rename_i d hd'
      obtain ⟨fd, F⟩ := hd d.d (List.mem_append_left _ (List.mem_map_of_mem (List.mem_of_getElem? hd')))
      have ea : He.fAd K d.d.at_ = (L.g K).fa f := by
        show _ = He.fAd K (L.at_ f)
        unfold Ld.at_
        rw [hd']
      rw [← ea]
      exact F.kp
    · cases e
  · obtain ⟨k, q⟩ := ex_of e
    have ek : k = some f := by
      have e' : (match L.cls[c]? with
        | some (_, some f) => some f
        | _ => none) = some (some f) := e'
      rw [q] at e'
      exact Option.some.inj e'
    subst ek
    have e2 : L.flds[f]? = some y := e2
    have z := range_all f4 (lt_of q)
    rw [q] at z
    obtain ⟨_, z⟩ := and2 z
    obtain ⟨z, _⟩ := and2 z
    dsimp only at z
    rw [e2] at z
    obtain ⟨z1, z2⟩ := and2 z
    have ce : (L.g K).ca c = He.ga K x := by
      show He.ga K (L.cln c) = _
      rw [cln_of q]
    have T0 := oexB_ok z1
    have y5 := range_all s5 (lt_of q)
    rw [q] at y5
    dsimp only at y5
    split at y5
    · rename_i d s p el
      rw [e2] at y5
      obtain ⟨y5, y1⟩ := and2 y5
      obtain ⟨y5, y2⟩ := and2 y5
      obtain ⟨y5, y3⟩ := and2 y5
      obtain ⟨y4, y5⟩ := and2 y5
      have m := lookup_mem el
      obtain ⟨fd, F⟩ := hd d (List.mem_append_right _ (List.mem_map_of_mem (f := fun p => p.2.1) m))
      have e1 : d.dvs K = [] := by unfold He.DefD.dvs; rw [List.isEmpty_iff.mp y3]; rfl
      have e2 : d.kws K = [] := by unfold He.DefD.kws; rw [List.isEmpty_iff.mp y2]; rfl
      rw [e1, e2] at F
      have Sc := scB_ok y4
      have f8 := and2 (List.all_eq_true.mp f8 _ m)
      rw [ce]
      refine ⟨T0, He.fAd K d.at_, fd, [s, p], ?_, of_decide_eq_true f8.1, xi_fn F Sc rfl y1 T0 (He.eqO_ok z2), paB_ok F Sc y5⟩
      have f9 := He.eqO_ok f8.2
      dsimp only at f9
      rw [cln_of q] at f9
      exact f9
    · cases y5
  · obtain ⟨k, q⟩ := ex_of e
    have ek : k = some f := by
      have e' : (match L.cls[c]? with
        | some (_, some f) => some f
        | _ => none) = some (some f) := e'
      rw [q] at e'
      exact Option.some.inj e'
    subst ek
    have z := range_all f4 (lt_of q)
    rw [q] at z
    obtain ⟨_, z⟩ := and2 z
    obtain ⟨z, _⟩ := and2 z
    dsimp only at z
    obtain ⟨_, z⟩ := and2 z
    show (L.flds[f]?).isSome = true
    split at z
    · rename_i e; rw [e]; rfl
    · cases z
end
end Y
set_option linter.all false
set_option maxHeartbeats 4000000
set_option maxRecDepth 100000
namespace Y
open PySem PySem.Spec PyProof.Rows L2 RZ
def Told (L : Ld) (w : World) (h : Heap) : Prop := ∃ K : PySem.W.Frag, K.In h ∧ L.facts K = true ∧ (∀ d ∈ L.defs, ∃ fd, FunD K d.name d.qual d.params d.body d.scope (d.dvs K) (d.kws K) (He.fAd K d.at_) fd) ∧ ∀ p ∈ L.kons, ∃ es n, KDict K w (He.ga K p.1) es n
theorem told_of {L : Ld} {w : World} {h : Heap} (y : (He.hookX 5 [] L.defs L.tabs [] L.facts).says w h) : Told L w h := by
  obtain ⟨K, X, c⟩ := y
  refine ⟨K, X, c.more, fun d hd => c.t.d.defs hd, fun p hp => ?_⟩
  obtain ⟨i, l, e⟩ := List.getElem_of_mem hp
  exact c.t.tab i (t := ((fun K => He.ga K p.1), p.2.map fun q => (⟨q.1.toArray⟩ : Str))) (by
    unfold Ld.tabs
    rw [List.getElem?_map, List.getElem?_eq_getElem l, e]
    rfl)
theorem walk_y {l : PySem.W.OpenLaw} {m k : Nat} {q : Program} {loose : List Str} {XP : (Str → Option Value) → Heap → Prop} {YP : World → Heap → Prop} {d : DefRec} {x : Str} (L : Ld) (i : Nat) {e : Fd} (hn : l.most = some m) (hn2 : m ≤ sizeLine) (hdf : d.params.defaults = []) (hr : Room (2 * k + 4) callerA)
    (hs : L.stat = true) (he : L.fds[i]? = some e) (hat : e.d.at_ = (d.name, none)) (hps : e.ps = [x]) (hdl : e.d.dfl = []) (hY : ∀ w h, YP w h → Told L w h)
    (hlaw : ∀ ns : List Int, ns.length ≤ m → Call L.tab (k + 1) i [.ref 0] (st0 ns) (fun d _ => d = .bl true) fun _ _ => False) : PySem.W.WalkO q loose XP YP l.row.toRowW d [] (fun f vs => PySem.call f vs) := by
  refine Att.attach_call hn hdf ?_
  intro w s0 s1 mg mb fa o pm cd doc a vs ns G0 Y0 ho hd hcd hmg hobj hints hlen hg
  obtain ⟨K, KX, hf, hD, hkon⟩ := hY w _ Y0
  obtain ⟨fd, F⟩ := hD e.d (List.mem_append_left _ (List.mem_map_of_mem (List.mem_of_getElem? he)))
  have fe : He.fAd K e.d.at_ = fa := by
    have q := List.all_eq_true.mp (and2 (and2 (and2 (and2 (and2 (and2 (and2 (and2 (and2 (and2 hf).1).1).1).1).1).1).1).1).1).2 e (List.mem_of_getElem? he)
    have z : (He.Fa.glo d.name).ok K = true := by
      rw [hat] at q
      exact q
    have z2 := He.glo_ok KX G0.T.g z
    rw [hmg] at z2
    rw [hat]
    exact (Value.ref.inj (Option.some.inj z2)).symm
  have ge : (L.g K).fa i = fa := by
    rw [← fe]
    show He.fAd K (L.at_ i) = _
    unfold Ld.at_
    rw [he]
  have s2 := List.all_eq_true.mp (and2 (and2 (and2 (and2 hs).1).1).1).2 e (List.mem_of_getElem? he)
  obtain ⟨z, k8⟩ := and2 s2
  obtain ⟨z, k7⟩ := and2 z
  obtain ⟨z, k6⟩ := and2 z
  obtain ⟨z, k5⟩ := and2 z
  obtain ⟨z, k4⟩ := and2 z
  obtain ⟨z, k3⟩ := and2 z
  obtain ⟨k1, k2⟩ := and2 z
  have e1 : e.d.dvs K = [] := by unfold He.DefD.dvs; rw [hdl]; rfl
  have e2 : e.d.kws K = [] := by unfold He.DefD.kws; rw [List.isEmpty_iff.mp k4]; rfl
  rw [e1, e2, fe] at F
  have Sc := scB_ok k1
  rw [hps] at Sc k2 k6
  have b := paB_ok F Sc k2
  have tf : L.tab.fn i = some e.fn := by
    show (L.fds[i]?).map (·.fn) = _
    rw [he]
    rfl
  refine law_call (sp := spF (L.g K) (Call L.tab (k + 1)) i) (fd := fd) (x := x) (CX := L2.CX l.prog w) KX G0.T.g G0.T.b G0.T.builtins G0.T.nolimit hg hobj hints (Nat.le_trans hlen hn2) hr (fun base kb nb => ?_) (fun s u => ?_) (fun H hO hS => ?_) fun H e s' ⟨_, _, _, _, _, _, _, _, _, _, _, _, z⟩ => z
  · have TO := top_ok (L := L) (P := l.prog) (w := w) (base := base) hkon kb nb hf hs hD
    have q := fn_ok TO (k := k) (all_ok TO k) tf (by rw [ge]; exact F) Sc (of_decide_eq_true k6) (of_decide_eq_true k7) k8
    rw [ge] at q
    exact q
  · exact paB_any F Sc k2 s [u] rfl
  · exact sp_law hO hS (hlaw ns hlen)
end Y
set_option Elab.async false
set_option linter.all false
set_option maxRecDepth 100000
namespace Y
open PySem PySem.W PySem.Calls PyProof.Rows HandSHeadRun
def RunA (r : OpenRow) (M : Nat) (w : World) : Prop := ∀ os : OsState, (endF (stepQ (denQ tabQ) r.prog w) M r.prog w os).map (fun s => looksF r.prog (boot_heap w.params) s.abs) = some true
def RunB (r : OpenRow) (q : Program) (M : Nat) (loose : List PySem.Str) (w : World) : Prop := ∀ os : OsState, (endF (stepQ (denQ tabQ) r.prog w) M r.prog w os).map (fun s => seenQ q loose (importedModules r.prog.main.body) (fun s => xlAt q [] s && recOk r.toRowW.records s) s.abs) = some (openGood q loose)
def RunC (r : OpenRow) (H : Hook) (ob : SharedT → H.α) (M : Nat) (w : World) : Prop := ∀ os : OsState, (endF (stepQ (denQ tabQ) r.prog w) M r.prog w os).map (fun s => ob s) = some (H.val w)
theorem map3 {α β γ δ : Type} {o : Option α} {f : α → β} {g : α → γ} {h : α → δ} {b : β} {c : γ} {d : δ} (h1 : o.map f = some b) (h2 : o.map g = some c) (h3 : o.map h = some d) : o.map (fun s => (f s, g s, h s)) = some (b, c, d) := by
  cases o with
  | none => cases h1
  | some s =>
    injection h1 with h1
    injection h2 with h2
    injection h3 with h3
    show some (f s, g s, h s) = _
    rw [h1, h2, h3]
theorem run_parts {r : OpenRow} {q : Program} {H : Hook} {ob : SharedT → H.α} {M : Nat} {loose : List PySem.Str} {w : World} (h1 : RunA r M w) (h2 : RunB r q M loose w) (h3 : RunC r H ob M w) : RunEq r q H ob M loose w := fun os => map3 (h1 os) (h2 os) (h3 os)
end Y
set_option linter.all false
set_option maxHeartbeats 4000000
set_option maxRecDepth 100000
namespace Y
theorem call_go {T : Tab} {k f : Nat} {ds : List D} {st : Store} {Q : QE} {X : QX} (fn : Fn) (h : T.fn f = some fn) (hl : ds.length = fn.np)
    (b : wpB T (Call T k) none fn.body (ds.map some ++ List.replicate (fn.ns - fn.np) none) st ⟨fun _ s => Q .non s, Q, fun _ _ => False, fun _ _ => False, fun e _ s => X e s⟩) : Call T (k + 1) f ds st Q X := by
  unfold Call
  rw [h]
  exact ⟨hl, b⟩
theorem getV_0 (d : D) (env : Env) (Q : D → Prop) : getV (some d :: env) 0 Q = Q d := rfl
theorem getV_s (a : Option D) (env : Env) (i : Nat) (Q : D → Prop) : getV (a :: env) (i + 1) Q = getV env i Q := by
  unfold getV
  rw [List.getElem?_cons_succ]
theorem set_0 {α : Type} (a b : α) (l : List α) : (a :: l).set 0 b = b :: l := rfl
theorem set_s {α : Type} (a b : α) (l : List α) (i : Nat) : (a :: l).set (i + 1) b = a :: l.set i b := rfl
theorem bind_nm (i : Nat) (d : D) (env : Env) : bindT (.nm i) d env = some (env.set i (some d)) := rfl
end Y
set_option linter.all false
set_option maxHeartbeats 4000000
set_option maxRecDepth 100000
namespace Y
section
variable {T : Tab} {C : Calls} {hx : Option Exc} {env : Env} {st : Store} {X : QX}
section
variable {Q : QE}
theorem go_var {i : Nat} (h : getV env i fun d => Q d st) : wpE T C hx (.var i) env st Q X := h
theorem go_con {d : D} (h : Q d st) : wpE T C hx (.con d) env st Q X := h
theorem go_glo {i : Nat} {d : D} (e : T.glo i = some d) (h : Q d st) : wpE T C hx (.glo i) env st Q X := by
  unfold wpE
  rw [e]
  exact h
theorem go_bin {o : Op} {a b : E} (h : wpE T C hx a env st (fun x s1 => wpE T C hx b env s1 (fun y s2 => binQ s2 o x y Q) X) X) : wpE T C hx (.bin o a b) env st Q X := h
theorem go_neg {a : E} {i : Int} (h : Q (.int (-i)) st) : wpE T C hx (.neg (.con (.int i))) env st Q X := h
theorem go_cmp {o : Cm} {a b : E} (h : wpE T C hx a env st (fun x s1 => wpE T C hx b env s1 (fun y s2 => cmpQ T s2 o x y fun b => Q (.bl b) s2) X) X) : wpE T C hx (.cmp o a b) env st Q X := h
theorem go_chain {o o' : Cm} {a b c : E} (h : wpE T C hx a env st (fun x s1 => wpE T C hx b env s1 (fun y s2 => cmpQ T s2 o x y fun k => if k = true then wpE T C hx c env s2 (fun z s3 => cmpQ T s3 o' y z fun b => Q (.bl b) s3) X else Q (.bl false) s2) X) X) : wpE T C hx (.chain o o' a b c) env st Q X := h
theorem go_isN {a : E} (h : wpE T C hx a env st (fun x s1 => Q (.bl (decide (x = .non))) s1) X) : wpE T C hx (.isN a) env st Q X := h
theorem go_and {a b : E} (h : wpE T C hx a env st (fun x s1 => (match x with
    | .bl c => if c = true then wpE T C hx b env s1 Q X else Q (.bl false) s1
    | _ => False)) X) : wpE T C hx (.and a b) env st Q X := h
theorem go_or {a b : E} (h : wpE T C hx a env st (fun x s1 => (match x with
    | .bl c => if c = true then Q (.bl true) s1 else wpE T C hx b env s1 Q X
    | _ => False)) X) : wpE T C hx (.or a b) env st Q X := h
theorem go_not {a : E} (h : wpE T C hx a env st (fun x s1 => (match x with
    | .bl c => Q (.bl (!c)) s1
    | _ => False)) X) : wpE T C hx (.not a) env st Q X := h
theorem go_call {f : Nat} {as : A} {df : List D} (h : wpA T C none as env st (fun ds s1 => C f (ds ++ df) s1 Q X) X) : wpE T C none (.call f as df) env st Q X := ⟨rfl, h⟩
theorem go_pr {p : Pr} {as : A} (h : wpA T C none as env st (fun ds s1 => prQ p ds s1 Q) X) : wpE T C none (.pr p as) env st Q X := ⟨rfl, h⟩
theorem go_me {m : Me} {o : E} {as : A} (h : wpE T C hx o env st (fun x s1 => meOk m s1 x ∧ wpA T C hx as env s1 (fun ds s2 => meQ m x ds s2 Q) X) X) : wpE T C hx (.me m o as) env st Q X := h
theorem go_isi {a : E} {ts : List Ty} (h : wpE T C hx a env st (fun x s1 => hasTy s1 x = true ∧ Q (.bl (ts.any fun t => isTy T (tyOf s1 x) t)) s1) X) : wpE T C hx (.isi a ts) env st Q X := h
theorem go_idx {a b : E} (h : wpE T C hx a env st (fun x s1 => wpE T C hx b env s1 (fun y s2 => idxQ T s2 x y Q) X) X) : wpE T C hx (.idx a b) env st Q X := h
theorem go_sli {a lo hi : E} (h : wpE T C hx a env st (fun x s1 => wpE T C hx lo env s1 (fun l s2 => partQ l fun l' => wpE T C hx hi env s2 (fun u s3 => partQ u fun u' => sliQ s3 x l' u' Q) X) X) X) : wpE T C hx (.sli a lo hi) env st Q X := h
theorem go_abs0 (h : Q .non st) : wpE T C hx .abs0 env st Q X := h
theorem go_tup {as : A} (h : wpA T C hx as env st (fun ds s1 => Q (.tup ds) s1) X) : wpE T C hx (.tup as) env st Q X := h
theorem go_lst {as : A} (h : wpA T C hx as env st (fun ds s1 => Q (.ref s1.length) (s1 ++ [.lst ds])) X) : wpE T C hx (.lst as) env st Q X := h
theorem go_fstr {as : A} (h : wpF T C hx as env st [] (fun y s1 => Q (.str y) s1) X) : wpE T C hx (.fstr as) env st Q X := h
end
section
variable {Q : Bool → Store → Prop}
theorem go_Tcmp {o : Cm} {a b : E} (h : wpE T C hx a env st (fun x s1 => wpE T C hx b env s1 (fun y s2 => cmpQ T s2 o x y fun k => Q k s2) X) X) : wpT T C hx (.cmp o a b) env st Q X := h
theorem go_Tchain {o o' : Cm} {a b c : E} (h : wpE T C hx a env st (fun x s1 => wpE T C hx b env s1 (fun y s2 => cmpQ T s2 o x y fun k => if k = true then wpE T C hx c env s2 (fun z s3 => cmpQ T s3 o' y z fun b => Q b s3) X else Q false s2) X) X) : wpT T C hx (.chain o o' a b c) env st Q X := h
theorem go_TisN {a : E} (h : wpE T C hx a env st (fun x s1 => Q (decide (x = .non)) s1) X) : wpT T C hx (.isN a) env st Q X := h
theorem go_Tand {a b : E} (h : wpT T C hx a env st (fun k s1 => if k = true then wpT T C hx b env s1 Q X else Q false s1) X) : wpT T C hx (.and a b) env st Q X := h
theorem go_Tor {a b : E} (h : wpT T C hx a env st (fun k s1 => if k = true then Q true s1 else wpT T C hx b env s1 Q X) X) : wpT T C hx (.or a b) env st Q X := h
theorem go_Tnot {a : E} (h : wpT T C hx a env st (fun k s1 => Q (!k) s1) X) : wpT T C hx (.not a) env st Q X := h
theorem go_Ttv {a : E} (h : wpE T C hx a env st (fun x s1 => truQ s1 x fun k => Q k s1) X) : wpT T C hx (.tv a) env st Q X := h
end
section
variable {Q : List D → Store → Prop}
theorem go_nil (h : Q [] st) : wpA T C hx .nil env st Q X := h
theorem go_cons {e : E} {as : A} (h : wpE T C hx e env st (fun d s1 => wpA T C hx as env s1 (fun ds s2 => Q (d :: ds) s2) X) X) : wpA T C hx (.cons e as) env st Q X := h
end
theorem go_Fnil {acc : List Nat} {Q : List Nat → Store → Prop} (h : Q acc st) : wpF T C hx .nil env st acc Q X := h
theorem go_Fcons {e : E} {as : A} {acc : List Nat} {Q : List Nat → Store → Prop} (h : wpE T C hx e env st (fun d s1 => fmtQ d fun y => (acc ++ y).length ≤ line ∧ wpF T C hx as env s1 (acc ++ y) Q X) X) : wpF T C hx (.cons e as) env st acc Q X := h
section
variable {k : K}
theorem go_Bnil (h : k.nx env st) : wpB T C hx .nil env st k := h
theorem go_Bcons {s : S} {b : B} (h : wpS T C hx s env st { k with nx := fun e s' => wpB T C hx b e s' k }) : wpB T C hx (.cons s b) env st k := h
theorem go_asg {i : Nat} {e : E} (h : wpE T C hx e env st (fun d s1 => k.nx (env.set i (some d)) s1) fun x s1 => k.xc x env s1) : wpS T C hx (.asg (.nm i) e) env st k := ⟨trivial, h⟩
theorem go_seti {o i e : E} (h : wpE T C hx e env st (fun v s1 => wpE T C hx o env s1 (fun x s2 => wpE T C hx i env s2 (fun y s3 => setQ s3 x y v fun s4 => k.nx env s4) fun x s1 => k.xc x env s1) fun x s1 => k.xc x env s1) fun x s1 => k.xc x env s1) : wpS T C hx (.seti o i e) env st k := h
theorem go_exp {e : E} (h : wpE T C hx e env st (fun _ s1 => k.nx env s1) fun x s1 => k.xc x env s1) : wpS T C hx (.exp e) env st k := h
theorem go_ret {e : E} (h : wpE T C hx e env st (fun d s1 => k.rt d s1) fun x s1 => k.xc x env s1) : wpS T C hx (.ret e) env st k := h
theorem go_if {c : E} {a b : B} (h : wpT T C hx c env st (fun t s1 => if t = true then wpB T C hx a env s1 k else wpB T C hx b env s1 k) fun x s1 => k.xc x env s1) : wpS T C hx (.ifS c a b) env st k := h
theorem go_for {tg : Tg} {it : E} {b : B} (h : wpI T C none it env st (fun j s1 => ∃ n, forN j tg (fun e s k' => wpB T C none b e s k') k n 0 env s1) fun x s1 => k.xc x env s1) : wpS T C none (.forS tg it b) env st k := ⟨rfl, h⟩
end
theorem go_comp {Q : QE} {elt it : E} {tg : Tg} {cs : A} {own : List Nat} (h : wpI T C none it env st (fun j s1 => ∃ n, cmpN j tg (fun e s P => wpTs T C none cs e s P) (fun e s P => wpE T C none elt e s P (fun _ _ => False)) s1.length Q n 0 (wipeE env own) (s1 ++ [.lst []])) X) : wpE T C none (.comp elt tg it cs own) env st Q X := ⟨rfl, h⟩
theorem go_sq {a : E} {R : J → Store → Prop} (h : wpE T C hx a env st (fun x s1 => walkQ s1 x fun j => R j s1) X) : wpI T C hx (.sq a) env st R X := h
theorem go_enm {a : E} {R : J → Store → Prop} (h : wpE T C hx a env st (fun x s1 => enmQ s1 x fun j => R j s1) X) : wpI T C hx (.enm a) env st R X := h
theorem go_rng1 {a : E} {R : J → Store → Prop} (h : wpE T C hx a env st (fun x s1 => (match x with
    | .int n => -(2 ^ 62) ≤ n ∧ n < 2 ^ 62 ∧ R (.seq (rngD 0 n.toNat)) s1
    | _ => False)) X) : wpI T C hx (.rng1 a) env st R X := h
theorem go_v0 {d : D} {env : Env} {Q : D → Prop} (h : Q d) : getV (some d :: env) 0 Q := h
theorem go_vs {a : Option D} {env : Env} {i : Nat} {Q : D → Prop} (h : getV env i Q) : getV (a :: env) (i + 1) Q := by
  rw [getV_s]
  exact h
section
variable {Q : QE} {a b i : Int}
theorem go_add (h : Q (.int (a + b)) st) : binQ st .add (.int a) (.int b) Q := h
theorem go_sub (h : Q (.int (a - b)) st) : binQ st .sub (.int a) (.int b) Q := h
theorem go_mul (s : (-(2 ^ 64) < a ∧ a < 2 ^ 64) ∨ (-(2 ^ 64) < b ∧ b < 2 ^ 64)) (h : Q (.int (a * b)) st) : binQ st .mul (.int a) (.int b) Q := ⟨s, h⟩
theorem go_fdiv (s : 0 < b ∧ b < 1073741824) (h : Q (.int (a / b)) st) : binQ st .fdiv (.int a) (.int b) Q := ⟨s.1, s.2, h⟩
theorem go_mod (s : 0 < b) (h : Q (.int (a % b)) st) : binQ st .mod (.int a) (.int b) Q := ⟨s, h⟩
theorem go_pow (s : 0 ≤ b ∧ b ≤ 1000000 ∧ a.natAbs < 2 ^ 64) (h : Q (.int (a ^ b.toNat)) st) : binQ st .pow (.int a) (.int b) Q := ⟨s.1, s.2.1, s.2.2, h⟩
theorem go_sadd {x y : List Nat} (s : x.length + y.length ≤ line) (h : Q (.str (x ++ y)) st) : binQ st .add (.str x) (.str y) Q := ⟨s, h⟩
theorem go_int (h : Q (.int i) st) : prQ .int [.int i] st Q := h
theorem go_intb {k : Bool} (h : Q (.int (if k then 1 else 0)) st) : prQ .int [.bl k] st Q := h
theorem go_abs (h : Q (.int (if i < 0 then -i else i)) st) : prQ .abs [.int i] st Q := h
theorem go_lens {x : List Nat} (s : x.length ≤ line) (h : Q (.int x.length) st) : prQ .len [.str x] st Q := ⟨s, h⟩
theorem go_lent {x : List D} (h : Q (.int x.length) st) : prQ .len [.tup x] st Q := h
theorem go_lenl {x : List D} {g : Nat} (e : st[g]? = some (.lst x)) (h : Q (.int x.length) st) : prQ .len [.ref g] st Q := by
  unfold prQ
  dsimp only
  rw [e]
  exact h
theorem go_lenf {x : List D} {g : Nat} (e : st[g]? = some (.fro x)) (h : Q (.int x.length) st) : prQ .len [.ref g] st Q := by
  unfold prQ
  dsimp only
  rw [e]
  exact h
theorem go_il {x : List D} {g j : Nat} {c : D} (e : st[g]? = some (.lst x)) (e2 : ixOf x.length i = some j) (e3 : x[j]? = some c) (h : Q c st) : idxQ T st (.ref g) (.int i) Q := by
  unfold idxQ
  dsimp only
  rw [e]
  dsimp only
  refine ⟨i, rfl, ?_⟩
  rw [e2]
  exact ⟨c, e3, h⟩
theorem go_if_ {x : List D} {g j : Nat} {c : D} (e : st[g]? = some (.fro x)) (e2 : ixOf x.length i = some j) (e3 : x[j]? = some c) (h : Q c st) : idxQ T st (.ref g) (.int i) Q := by
  unfold idxQ
  dsimp only
  rw [e]
  dsimp only
  refine ⟨i, rfl, ?_⟩
  rw [e2]
  exact ⟨c, e3, h⟩
theorem go_it {x : List D} {j : Nat} {c : D} (e2 : ixOf x.length i = some j) (e3 : x[j]? = some c) (h : Q c st) : idxQ T st (.tup x) (.int i) Q := by
  unfold idxQ
  dsimp only
  rw [e2]
  exact ⟨c, e3, h⟩
theorem go_set {x : List D} {g j : Nat} {v : D} {R : Store → Prop} (e : st[g]? = some (.lst x)) (e2 : ixOf x.length i = some j) (h : R (st.set g (.lst (x.set j v)))) : setQ st (.ref g) (.int i) v R := by
  unfold setQ
  dsimp only
  rw [e]
  exact ⟨i, j, rfl, e2, h⟩
end
section
variable {Q : Bool → Prop} {a b : Int}
theorem go_lt (h : Q (decide (a < b))) : cmpQ T st .lt (.int a) (.int b) Q := h
theorem go_le (h : Q (decide (a ≤ b))) : cmpQ T st .le (.int a) (.int b) Q := h
theorem go_gt (h : Q (decide (b < a))) : cmpQ T st .gt (.int a) (.int b) Q := h
theorem go_ge (h : Q (decide (b ≤ a))) : cmpQ T st .ge (.int a) (.int b) Q := h
theorem go_eqi (h : Q (decide (a = b))) : cmpQ T st .eq (.int a) (.int b) Q := h
theorem go_nei (h : Q (!decide (a = b))) : cmpQ T st .ne (.int a) (.int b) Q := h
theorem go_eqs {x y : List Nat} (h : Q (decide (x = y))) : cmpQ T st .eq (.str x) (.str y) Q := h
theorem go_nes {x y : List Nat} (h : Q (!decide (x = y))) : cmpQ T st .ne (.str x) (.str y) Q := h
theorem go_tb {k : Bool} (h : Q k) : truQ st (.bl k) Q := h
end
theorem go_t {p q : Prop} (h : p) : if true = true then p else q := h
theorem go_f {p q : Prop} (h : q) : if false = true then p else q := h
theorem go_dt {c : Prop} [Decidable c] {p q : Prop} (hc : c) (h : p) : if decide c = true then p else q := by rw [if_pos (decide_eq_true hc)]; exact h
theorem go_df {c : Prop} [Decidable c] {p q : Prop} (hc : ¬ c) (h : q) : if decide c = true then p else q := by rw [if_neg (by rw [decide_eq_false hc]; exact Bool.false_ne_true)]; exact h
theorem go_dc {c : Prop} [Decidable c] {p q : Prop} (h : c → p) (h' : ¬ c → q) : if decide c = true then p else q := by
  by_cases hc : c
  · exact go_dt hc (h hc)
  · exact go_df hc (h' hc)
theorem cmp_rng {T : Tab} {C : Calls} {elt : E} {i0 : Nat} {env : Env} {h : Nat} {Q : QE} (R : D → Prop) (Iv : Store → Prop) (n : Nat)
    (turn : ∀ (i : Nat) (st : Store) (acc : List D) (Q' : QE), Iv st → st[h]? = some (.lst acc) → (∀ d st', R d → st'[h]? = some (.lst acc) → Iv st' → (∀ acc', Iv (st'.set h (.lst acc'))) → Q' d st') → wpE T C none elt (env.set i0 (some (.int i))) st Q' fun _ _ => False)
    (done : ∀ (ds : List D) (st : Store), ds.length = n → (∀ d ∈ ds, R d) → st[h]? = some (.lst ds) → Iv st → Q (.ref h) st) (hn : n < line) :
    ∀ (m i : Nat) (acc : List D) (st : Store), m + i = n → acc.length = i → (∀ d ∈ acc, R d) → st[h]? = some (.lst acc) → Iv st →
      cmpN (.seq (rngD 0 n)) (.nm i0) (fun e s P => wpTs T C none .nil e s P) (fun e s P => wpE T C none elt e s P fun _ _ => False) h Q (m + 1) i env st
  | 0, i, acc, st, e, el, ha, eh, iv => by
    unfold cmpN
    have at_ : (J.seq (rngD 0 n)).at i st = some none := by
      show some ((rngD 0 n)[i]?) = some none
      unfold rngD
      rw [List.getElem?_eq_none (by simp; omega)]
    rw [at_]
    exact done acc st (by omega) ha eh iv
  | m + 1, i, acc, st, e, el, ha, eh, iv => by
    unfold cmpN
    have at_ : (J.seq (rngD 0 n)).at i st = some (some (.int i)) := by
      show some ((rngD 0 n)[i]?) = some (some (.int i))
      unfold rngD
      rw [List.getElem?_map, List.getElem?_range (by omega)]
      simp
    rw [at_]
    refine turn i st acc _ iv eh fun d st' r eh' iv' ks => ?_
    rw [eh']
    have lt : h < st'.length := (List.getElem?_eq_some_iff.mp eh').1
    refine ⟨by omega, cmp_rng R Iv n turn done hn m (i + 1) (acc ++ [d]) _ (by omega) (by simp [el]) (fun x hx => ?_) (List.getElem?_set_self lt) (ks _)⟩
    rcases List.mem_append.mp hx with z | z
    · exact ha x z
    · rw [List.mem_singleton.mp z]
      exact r
end
end Y
set_option linter.all false
set_option maxHeartbeats 4000000
set_option maxRecDepth 100000
namespace Y
open PySem
theorem join_y (a : List Nat) (ys : List (List Nat)) : (Txt.join ⟨a.toArray⟩ (ys.map fun y => ⟨y.toArray⟩)).cps.toList = TL.joinL a ys := by
  have h := TL.tl_join ⟨a.toArray⟩ (ys.map fun y => ⟨y.toArray⟩)
  rw [← TL.join_eq] at h
  have e : (ys.map fun y => (⟨y.toArray⟩ : Str)).map TL.tl = ys := by
    rw [List.map_map]
    exact List.map_id' ys
  rw [e] at h
  exact h
theorem split_y {s : Nat} (hs : s < 256) {parts : List (List Nat)} (hne : parts ≠ []) (hp : ∀ p ∈ parts, s ∉ p) : (Txt.split ⟨(TL.joinL [s] parts).toArray⟩ ⟨[s].toArray⟩).map (fun z => D.str z.cps.toList) = parts.map D.str := by
  have hk : (⟨[s].toArray⟩ : Str).cps.all (· < 256) = true := by simp [hs]
  have q := TL.split_join (y := ⟨[s].toArray⟩) (s := s) (S := []) rfl hk (parts := parts.map fun y => ⟨y.toArray⟩) (by simpa using hne) (fun p hm => by
    obtain ⟨z, hz, rfl⟩ := List.mem_map.mp hm
    exact hp z hz)
  have e : (⟨(TL.joinL [s] parts).toArray⟩ : Str) = Txt.join ⟨[s].toArray⟩ (parts.map fun y => ⟨y.toArray⟩) := by
    rw [← join_y]
  rw [e, q, List.map_map]
  rfl
section
variable {st : Store} {Q : QE}
theorem go_join {a : List Nat} {d : D} {ys : List (List Nat)} (e : seqOf st d = some (ys.map D.str)) (b : (ys.map List.length).sum + ys.length * a.length ≤ 16777216) (h : Q (.str (TL.joinL a ys)) st) : meQ .join (.str a) [d] st Q := by
  refine ⟨ys, e, b, ?_⟩
  rw [join_y]
  exact h
theorem go_split {s : Nat} {parts : List (List Nat)} (hs : s < 256) (hne : parts ≠ []) (hp : ∀ p ∈ parts, s ∉ p) (b : (TL.joinL [s] parts).length + 2 ≤ line) (h : Q (.ref st.length) (st ++ [.lst (parts.map D.str)])) : meQ .split (.str (TL.joinL [s] parts)) [.str [s]] st Q := by
  refine ⟨by simp, b, ?_⟩
  rw [split_y hs hne hp]
  exact h
theorem go_app {g : Nat} {xs : List D} {d : D} (e : st[g]? = some (.lst xs)) (b : xs.length < line) (h : Q .non (st.set g (.lst (xs ++ [d])))) : meQ .append (.ref g) [d] st Q := by
  unfold meQ
  dsimp only
  rw [e]
  exact ⟨b, h⟩
theorem go_is {T : Tab} {x : List Nat} {i : Int} {j c : Nat} (b : x.length ≤ line) (e2 : ixOf x.length i = some j) (e3 : x[j]? = some c) (h : Q (.str [c]) st) : idxQ T st (.str x) (.int i) Q := by
  refine ⟨b, ?_⟩
  rw [e2]
  exact ⟨c, e3, h⟩
theorem go_tol {g : Nat} {xs : List D} (e : st[g]? = some (.lst xs)) (h : Q (.tup xs) st) : prQ .tuple [.ref g] st Q := by
  unfold prQ
  dsimp only
  rw [e]
  exact h
theorem go_lol {g : Nat} {xs : List D} (e : st[g]? = some (.lst xs)) (h : Q (.ref st.length) (st ++ [.lst xs])) : prQ .list [.ref g] st Q := by
  unfold prQ
  dsimp only
  rw [e]
  exact h
end
theorem ix_pos {n : Nat} {i : Int} (h : 0 ≤ i) (l : i < n) : ixOf n i = some i.toNat := by
  unfold ixOf
  rw [if_pos h, if_pos l]
theorem joinL_len (a : List Nat) : ∀ ys : List (List Nat), (TL.joinL a ys).length ≤ (ys.map List.length).sum + ys.length * a.length
  | [] => by simp [TL.joinL]
  | [p] => by simp [TL.joinL]
  | p :: q :: r => by
    have h := joinL_len a (q :: r)
    show (p ++ (a ++ TL.joinL a (q :: r))).length ≤ _
    rw [List.length_append, List.length_append, List.map_cons, List.sum_cons, List.length_cons (a := p), Nat.succ_mul]
    omega
theorem line_eq : line = sizeLine := rfl
theorem go_bt {b : Bool} {p q : Prop} (e : b = true) (h : p) : if b = true then p else q := by rw [if_pos e]; exact h
theorem go_bf {b : Bool} {p q : Prop} (e : b = false) (h : q) : if b = true then p else q := by rw [if_neg (by rw [e]; exact Bool.false_ne_true)]; exact h
theorem go_fs {x : List Nat} {Q : List Nat → Prop} (b : x.length ≤ line) (h : Q x) : fmtQ (.str x) Q := ⟨b, h⟩
theorem go_fi {i : Int} {Q : List Nat → Prop} (b : i.natAbs.log2 < 1920) (h : Q (decI i)) : fmtQ (.int i) Q := ⟨b, h⟩
theorem go_stri {i : Int} {st : Store} {Q : QE} (b : i.natAbs.log2 < 1920) (h : Q (.str (decI i)) st) : prQ .str [.int i] st Q := ⟨b, h⟩
end Y
set_option linter.all false
set_option maxHeartbeats 4000000
set_option maxRecDepth 100000
namespace Y
theorem for_j {j : J} {tg : Tg} {body : Env → Store → K → Prop} {k : K} (n : Nat) (Iv : Nat → Env → Store → Prop)
    (bd : ∀ (i : Nat) (env : Env) (st : Store) (N : Env → Store → Prop), i < n → Iv i env st → (∀ e s, Iv (i + 1) e s → N e s) → ∃ d env', j.at i st = some (some d) ∧ bindT tg d env = some env' ∧ body env' st { k with nx := N, ct := N, bk := k.nx })
    (done : ∀ (env : Env) (st : Store), Iv n env st → j.at n st = some none ∧ k.nx env st) : ∀ (m i : Nat) (env : Env) (st : Store), m + i = n → Iv i env st → forN j tg body k (m + 1) i env st
  | 0, i, env, st, e, iv => by
    have e : i = n := by omega
    subst e
    unfold forN
    rw [(done env st iv).1]
    exact (done env st iv).2
  | m + 1, i, env, st, e, iv => by
    unfold forN
    obtain ⟨d, env', h1, h2, h3⟩ := bd i env st (forN j tg body k (m + 1) (i + 1)) (by omega) iv fun e' s' iv' => for_j n Iv bd done m (i + 1) e' s' (by omega) iv'
    rw [h1]
    dsimp only
    rw [h2]
    exact h3
theorem go_nins {T : Tab} {st : Store} {Q : Bool → Prop} {a b : List Nat} {r : Bool} (e : (!(PySem.Builtin.Str.occurrences ⟨b.toArray⟩ ⟨a.toArray⟩ 0 b.length 1).isEmpty) = r) (h : Q (!r)) : cmpQ T st .nin (.str a) (.str b) Q := by
  subst e
  exact h
theorem go_nint {T : Tab} {st : Store} {Q : Bool → Prop} {x : D} {ds : List D} {r : Bool} (f : flatD x = true) (fs : ds.all flatD = true) (e : inD x ds = r) (h : Q (!r)) : cmpQ T st .nin x (.tup ds) Q := by
  subst e
  cases x <;> first
    | exact ⟨f, fs, h⟩
    | cases f
theorem go_slil {st : Store} {Q : QE} {g : Nat} {xs ys : List D} {lo hi : Option Int} (e : st[g]? = some (.lst xs)) (c : cutL xs lo hi = ys) (h : Q (.ref st.length) (st ++ [.lst ys])) : sliQ st (.ref g) lo hi Q := by
  subst c
  unfold sliQ
  dsimp only
  rw [e]
  exact h
theorem go_ptS {i : Int} {Q : Option Int → Prop} (h : Q (some i)) : partQ (.int i) Q := h
theorem go_ptN {Q : Option Int → Prop} (h : Q none) : partQ .non Q := h
theorem at_enm {s : Store} {h i : Nat} {ds : List D} (e : s[h]? = some (.lst ds)) : J.at (.enm h) i s = some (ds[i]?.map fun d => .tup [.int i, d]) := by
  unfold J.at
  dsimp only
  rw [e]
theorem at_lst {s : Store} {h i : Nat} {ds : List D} (e : s[h]? = some (.lst ds)) : J.at (.lst h) i s = some ds[i]? := by
  unfold J.at
  dsimp only
  rw [e]
theorem meOk_l {m : Me} {s : Store} {g : Nat} {xs : List D} (e : s[g]? = some (.lst xs)) (ht : meT m = .list) : meOk m s (.ref g) := by
  unfold meOk
  dsimp only
  rw [e]
  exact ht
theorem enm_l {s : Store} {g : Nat} {xs : List D} {R : J → Prop} (e : s[g]? = some (.lst xs)) (h : R (.enm g)) : enmQ s (.ref g) R := by
  unfold enmQ
  dsimp only
  rw [e]
  exact h
theorem walk_l {s : Store} {g : Nat} {xs : List D} {R : J → Prop} (e : s[g]? = some (.lst xs)) (h : R (.lst g)) : walkQ s (.ref g) R := by
  unfold walkQ
  dsimp only
  rw [e]
  exact h
theorem isi_l {s : Store} {g : Nat} {xs : List D} (e : s[g]? = some (.lst xs)) : tyOf s (.ref g) = some .list ∧ hasTy s (.ref g) = true := by
  unfold tyOf hasTy
  dsimp only
  rw [e]
  exact ⟨rfl, rfl⟩
theorem set_last (st : Store) (o o' : O) : (st ++ [o]).set st.length o' = st ++ [o'] := by
  rw [List.set_append_right _ _ (Nat.le_refl _)]
  simp
end Y
set_option linter.all false
set_option maxHeartbeats 4000000
set_option maxRecDepth 100000
namespace Y
open PySem
universe u v
structure Tok {α : Sort u} (a : α) : Type where
def lz {α : Sort u} (a : α) (_ : Tok a) : α := a
theorem lz1 {α : Sort u} {β : Sort v} (f : α → β) (t : Tok f) (x : α) : lz f t x = f x := rfl
def ifL (b : Bool) (p q : Unit → Prop) : Prop := if b = true then p () else q ()
theorem z_ifT (p q : Unit → Prop) : ifL true p q = p () := by unfold ifL; rw [if_pos rfl]
theorem z_ifF (p q : Unit → Prop) : ifL false p q = q () := by unfold ifL; rw [if_neg Bool.false_ne_true]
theorem ifd {c : Prop} [Decidable c] {p q : Unit → Prop} (h : c → p ()) (h' : ¬ c → q ()) : ifL (decide c) p q := by
  by_cases hc : c
  · rw [decide_eq_true hc, z_ifT]; exact h hc
  · rw [decide_eq_false hc, z_ifF]; exact h' hc
theorem ifb {b : Bool} {p q : Unit → Prop} (h : b = true → p ()) (h' : b = false → q ()) : ifL b p q := by
  cases b
  · rw [z_ifF]; exact h' rfl
  · rw [z_ifT]; exact h rfl
theorem k_c0 : ((0 : Nat) : Int) = 0 := rfl
theorem k_c1 : ((0 + 1 : Nat) : Int) = 1 := rfl
theorem k_c2 : ((0 + 1 + 1 : Nat) : Int) = 2 := rfl
theorem k_c3 : ((0 + 1 + 1 + 1 : Nat) : Int) = 3 := rfl
theorem k_c4 : ((0 + 1 + 1 + 1 + 1 : Nat) : Int) = 4 := rfl
theorem k_c5 : ((0 + 1 + 1 + 1 + 1 + 1 : Nat) : Int) = 5 := rfl
theorem k_c6 : ((0 + 1 + 1 + 1 + 1 + 1 + 1 : Nat) : Int) = 6 := rfl
def fewF : Nat → List (Nat × D) → Prop
  | _, [] => True
  | 0, _ :: _ => False
  | n + 1, _ :: r => fewF n r
theorem fewF_iff : ∀ (n : Nat) (fs : List (Nat × D)), fewF n fs ↔ fs.length ≤ n
  | n, [] => by cases n <;> simp [fewF]
  | 0, _ :: _ => by simp [fewF]
  | n + 1, _ :: r => by
    show fewF n r ↔ _
    rw [fewF_iff n r, List.length_cons]
    omega
theorem k_few0 {n : Nat} : fewF n [] = True := by cases n <;> rfl
theorem k_fewS {n : Nat} {p : Nat × D} {r : List (Nat × D)} : fewF (n + 1) (p :: r) = fewF n r := rfl
theorem k_lkm {α : Type} {k j : Nat} {v : α} {r : List (Nat × α)} (h : (k == j) = false) : List.lookup k ((j, v) :: r) = List.lookup k r := by
  rw [List.lookup_cons, h]
theorem k_pf0 {f : Nat} {d : D} : putF f d [] = [(f, d)] := rfl
theorem k_pfh {f : Nat} {d x : D} {r : List (Nat × D)} : putF f d ((f, x) :: r) = (f, d) :: r := by unfold putF; rw [if_pos rfl]
theorem k_pfm {f j : Nat} {d x : D} {r : List (Nat × D)} (h : (j == f) = false) : putF f d ((j, x) :: r) = (j, x) :: putF f d r := by
  show (if j = f then _ else _) = _
  rw [if_neg (fun e => by rw [e] at h; simp at h)]
def clsO (o : Option O) : Option Nat := match o with
  | some (.ins c _) => some c
  | _ => none
theorem k_cls {st : Store} {h : Nat} : clsOf st (.ref h) = clsO st[h]? := by
  unfold clsOf clsO
  show (match st[h]? with | some (O.ins c _) => some c | _ => none) = _
  cases st[h]? with
  | none => rfl
  | some o => cases o <;> rfl
theorem k_clsO {c : Nat} {fs : List (Nat × D)} : clsO (some (.ins c fs)) = some c := rfl
def othO (c : Nat) : Option O → Bool
  | some (.lst _) => true
  | some (.ins c' _) => decide (c' = c)
  | _ => false
theorem k_oth1 {st : Store} {c : Nat} : othB st c .non = true := rfl
theorem k_oth2 {st : Store} {c : Nat} {i : Int} : othB st c (.int i) = true := rfl
theorem k_oth3 {st : Store} {c : Nat} {i : List Nat} : othB st c (.str i) = true := rfl
theorem k_oth4 {st : Store} {c : Nat} {i : List D} : othB st c (.tup i) = true := rfl
theorem k_oth5 {st : Store} {c h : Nat} : othB st c (.ref h) = othO c st[h]? := by
  first
  | rfl
  | (unfold othB othO
     dsimp only
     cases st[h]? with
     | none => rfl
     | some o => cases o <;> rfl)
theorem k_oth6 {c : Nat} {ds : List D} : othO c (some (.lst ds)) = true := rfl
theorem k_oth7 {c : Nat} {fs : List (Nat × D)} : othO c (some (.ins c fs)) = true := decide_eq_true rfl
def ks (T : Tab) (C : Calls) (hx : Option Exc) (b : B) (k : K) (_ : Tok k) : K := { k with nx := fun e s' => wpB T C hx b e s' k }
def kl (N : Env → Store → Prop) (k : K) (_ : Tok k) : K := { k with nx := N, ct := N, bk := k.nx }
def kc (Q : QE) (X : QX) (_ : Tok Q) (_ : Tok X) : K := ⟨fun _ s => Q .non s, Q, fun _ _ => False, fun _ _ => False, fun e _ s => X e s⟩
def kt (T : Tab) (C : Calls) (hs : Hs) (k : K) (_ : Tok k) : K := { k with xc := fun e env' s' => wpH T C hs e env' s' k }
def kh (k : K) (nm : Option Nat) (_ : Tok k) : K := ⟨fun e' s' => k.nx (unset nm e') s', k.rt, fun _ _ => False, fun _ _ => False, fun _ _ _ => False⟩
section
variable {T : Tab} {C : Calls} {hx : Option Exc} {b : B} {k : K} {t : Tok k} {N : Env → Store → Prop} {Q : QE} {X : QX} {tq : Tok Q} {tx : Tok X} {hs : Hs} {nm : Option Nat} {e : Env} {s : Store} {d : D} {x : Exc}
theorem ks_nx : (ks T C hx b k t).nx e s = wpB T C hx b e s k := rfl
theorem ks_rt : (ks T C hx b k t).rt d s = k.rt d s := rfl
theorem ks_bk : (ks T C hx b k t).bk e s = k.bk e s := rfl
theorem ks_ct : (ks T C hx b k t).ct e s = k.ct e s := rfl
theorem ks_xc : (ks T C hx b k t).xc x e s = k.xc x e s := rfl
theorem kl_nx : (kl N k t).nx e s = N e s := rfl
theorem kl_rt : (kl N k t).rt d s = k.rt d s := rfl
theorem kl_bk : (kl N k t).bk e s = k.nx e s := rfl
theorem kl_ct : (kl N k t).ct e s = N e s := rfl
theorem kl_xc : (kl N k t).xc x e s = k.xc x e s := rfl
theorem kc_nx : (kc Q X tq tx).nx e s = Q .non s := rfl
theorem kc_rt : (kc Q X tq tx).rt d s = Q d s := rfl
theorem kc_xc : (kc Q X tq tx).xc x e s = X x s := rfl
theorem kt_nx : (kt T C hs k t).nx e s = k.nx e s := rfl
theorem kt_rt : (kt T C hs k t).rt d s = k.rt d s := rfl
theorem kt_bk : (kt T C hs k t).bk e s = k.bk e s := rfl
theorem kt_ct : (kt T C hs k t).ct e s = k.ct e s := rfl
theorem kt_xc : (kt T C hs k t).xc x e s = wpH T C hs x e s k := rfl
theorem kh_nx : (kh k nm t).nx e s = k.nx (unset nm e) s := rfl
theorem kh_rt : (kh k nm t).rt d s = k.rt d s := rfl
end
theorem un_n {e : Env} : unset none e = e := rfl
theorem un_s {e : Env} {i : Nat} : unset (some i) e = e.set i none := rfl
def isNon : D → Bool
  | .non => true
  | _ => false
theorem isNon_eq (d : D) : decide (d = .non) = isNon d := by cases d <;> first | rfl | exact decide_eq_false (by intro h; cases h)
theorem isNon_1 : isNon .non = true := rfl
theorem isNon_2 {b} : isNon (.bl b) = false := rfl
theorem isNon_3 {b} : isNon (.int b) = false := rfl
theorem isNon_4 {b} : isNon (.str b) = false := rfl
theorem isNon_5 {b} : isNon (.tup b) = false := rfl
theorem isNon_6 {b} : isNon (.ref b) = false := rfl
theorem isNon_7 {b} : isNon (.kon b) = false := rfl
def boolQ (d : D) (F : Bool → Prop) : Prop := match d with
  | .bl c => F c
  | _ => False
theorem boolQ_1 {c F} : boolQ (.bl c) F = F c := rfl
def intQ (d : D) (F : Int → Prop) : Prop := match d with
  | .int c => F c
  | _ => False
theorem intQ_1 {c F} : intQ (.int c) F = F c := rfl
def optQ {α : Type} (o : Option α) (F : α → Prop) : Prop := match o with
  | some a => F a
  | none => False
theorem optQ_1 {α : Type} {a : α} {F} : optQ (some a) F = F a := rfl
def lstQ (o : Option O) (F : List D → Prop) : Prop := match o with
  | some (.lst a) => F a
  | _ => False
theorem lstQ_1 {a F} : lstQ (some (.lst a)) F = F a := rfl
def sqQ (o : Option O) (F : List D → Prop) : Prop := match o with
  | some (.lst a) => F a
  | some (.fro a) => F a
  | _ => False
theorem sqQ_1 {a F} : sqQ (some (.lst a)) F = F a := rfl
theorem sqQ_2 {a F} : sqQ (some (.fro a)) F = F a := rfl
def cntQ (o : Option O) (F : Nat → Prop) : Prop := match o with
  | some (.lst a) => F a.length
  | some (.fro a) => F a.length
  | some (.dic a) => F a.length
  | _ => False
theorem cntQ_1 {a F} : cntQ (some (.lst a)) F = F a.length := rfl
theorem cntQ_2 {a F} : cntQ (some (.fro a)) F = F a.length := rfl
theorem cntQ_3 {a F} : cntQ (some (.dic a)) F = F a.length := rfl
def dicQ (o : Option O) (F : List (D × D) → Prop) : Prop := match o with
  | some (.dic a) => F a
  | _ => False
theorem dicQ_1 {a F} : dicQ (some (.dic a)) F = F a := rfl
def insQ (o : Option O) (F : Nat → List (Nat × D) → Prop) : Prop := match o with
  | some (.ins c fs) => F c fs
  | _ => False
theorem insQ_1 {c a F} : insQ (some (.ins c a)) F = F c a := rfl
def getIx (xs : List D) (i : Int) (F : D → Prop) : Prop := match ixOf xs.length i with
  | some j => ∃ c, xs[j]? = some c ∧ F c
  | none => False
theorem getIx_of {xs : List D} {i : Int} {F : D → Prop} {j : Nat} {c : D} (e : ixOf xs.length i = some j) (e2 : xs[j]? = some c) : getIx xs i F = F c := by
  unfold getIx
  rw [e]
  dsimp only
  rw [e2]
  refine propext ⟨fun ⟨c', h, q⟩ => ?_, fun h => ⟨c, rfl, h⟩⟩
  cases h
  exact q
section
variable {a b c d e f g : D} {r : List D} {F : D → Prop}
theorem getIx_0 : getIx (a :: r) 0 F = F a := getIx_of (j := 0) (by unfold ixOf; rw [if_pos (by decide), if_pos (by simp)]; rfl) rfl
theorem getIx_1 : getIx (a :: b :: r) 1 F = F b := getIx_of (j := 1) (by unfold ixOf; rw [if_pos (by decide), if_pos (by simp; try omega)]; rfl) rfl
theorem getIx_2 : getIx (a :: b :: c :: r) 2 F = F c := getIx_of (j := 2) (by unfold ixOf; rw [if_pos (by decide), if_pos (by simp; try omega)]; rfl) rfl
theorem getIx_3 : getIx (a :: b :: c :: d :: r) 3 F = F d := getIx_of (j := 3) (by unfold ixOf; rw [if_pos (by decide), if_pos (by simp; try omega)]; rfl) rfl
theorem getIx_4 : getIx (a :: b :: c :: d :: e :: r) 4 F = F e := getIx_of (j := 4) (by unfold ixOf; rw [if_pos (by decide), if_pos (by simp; try omega)]; rfl) rfl
theorem getIx_5 : getIx (a :: b :: c :: d :: e :: f :: r) 5 F = F f := getIx_of (j := 5) (by unfold ixOf; rw [if_pos (by decide), if_pos (by simp; try omega)]; rfl) rfl
end
def ixrQ (o : Option O) (y : D) (F : D → Prop) : Prop := match o with
  | some (.lst xs) => ∃ i, y = .int i ∧ getIx xs i F
  | some (.fro xs) => ∃ i, y = .int i ∧ getIx xs i F
  | some (.dic kvs) => keyD y = true ∧ optQ (getK kvs y) F
  | _ => False
theorem ixrQ_1 {xs F} {i : Int} : ixrQ (some (.lst xs)) (.int i) F = getIx xs i F := propext ⟨fun ⟨j, e, h⟩ => by cases e; exact h, fun h => ⟨i, rfl, h⟩⟩
theorem ixrQ_2 {xs F} {i : Int} : ixrQ (some (.fro xs)) (.int i) F = getIx xs i F := propext ⟨fun ⟨j, e, h⟩ => by cases e; exact h, fun h => ⟨i, rfl, h⟩⟩
theorem ixrQ_3 {kvs F} {i : Int} : ixrQ (some (.dic kvs)) (.int i) F = optQ (getK kvs (.int i)) F := propext ⟨fun h => h.2, fun h => ⟨rfl, h⟩⟩
theorem ixrQ_4 {kvs F} {x : List Nat} : ixrQ (some (.dic kvs)) (.str x) F = optQ (getK kvs (.str x)) F := propext ⟨fun h => h.2, fun h => ⟨rfl, h⟩⟩
def strQ (o : Option O) (y v : D) (F : O → Prop) : Prop := match o with
  | some (.lst xs) => ∃ i, y = .int i ∧ (match ixOf xs.length i with
    | some j => F (.lst (xs.set j v))
    | none => False)
  | some (.dic kvs) => keyD y = true ∧ kvs.length < line ∧ F (.dic (putK kvs y v))
  | _ => False
def setIx (xs : List D) (i : Int) (v : D) (F : List D → Prop) : Prop := match ixOf xs.length i with
  | some j => F (xs.set j v)
  | none => False
theorem setIx_of {xs : List D} {i : Int} {v : D} {F : List D → Prop} {j : Nat} (e : ixOf xs.length i = some j) : setIx xs i v F = F (xs.set j v) := by
  unfold setIx
  rw [e]
section
variable {a b c d v : D} {r : List D} {F : List D → Prop}
theorem setIx_0 : setIx (a :: r) 0 v F = F (v :: r) := setIx_of (j := 0) (by unfold ixOf; rw [if_pos (by decide), if_pos (by simp)]; rfl)
theorem setIx_1 : setIx (a :: b :: r) 1 v F = F (a :: v :: r) := setIx_of (j := 1) (by unfold ixOf; rw [if_pos (by decide), if_pos (by simp; try omega)]; rfl)
theorem setIx_2 : setIx (a :: b :: c :: r) 2 v F = F (a :: b :: v :: r) := setIx_of (j := 2) (by unfold ixOf; rw [if_pos (by decide), if_pos (by simp; try omega)]; rfl)
end
def bindL : List Nat → List D → Env → (Env → Prop) → Prop
  | [], [], e, F => F e
  | i :: is, d :: ds, e, F => bindL is ds (e.set i (some d)) F
  | _, _, _, _ => False
def bindQ (tg : Tg) (d : D) (env : Env) (F : Env → Prop) : Prop := match bindT tg d env with
  | some env' => F env'
  | none => False
theorem bindQ_nm {i d env F} : bindQ (.nm i) d env F = F (env.set i (some d)) := rfl
theorem bindL_0 {e F} : bindL [] [] e F = F e := rfl
theorem bindL_1 {i is d ds e F} : bindL (i :: is) (d :: ds) e F = bindL is ds (e.set i (some d)) F := rfl
theorem bindL_eq : ∀ (is : List Nat) (ds : List D) (env : Env) (F : Env → Prop), (match (if ds.length = is.length then some ((is.zip ds).foldl (fun e p => e.set p.1 (some p.2)) env) else none) with | some env' => F env' | none => False) = bindL is ds env F
  | [], [], env, F => rfl
  | [], d :: ds, env, F => by simp [bindL]
  | i :: is, [], env, F => by simp [bindL]
  | i :: is, d :: ds, env, F => by
    have h := bindL_eq is ds (env.set i (some d)) F
    rw [bindL_1, ← h]
    simp only [List.length_cons, Nat.add_right_cancel_iff, List.zip_cons_cons, List.foldl_cons]
theorem bindQ_tp {is ds env F} : bindQ (.tp is) (.tup ds) env F = bindL is ds env F := bindL_eq is ds env F
section
variable {T : Tab} {C : Calls} {hx : Option Exc} {env : Env} {st : Store} {X : QX}
section
variable {Q : QE}
theorem z_var {i : Nat} : wpE T C hx (.var i) env st Q X = getV env i (lz (fun d => Q d st) .mk) := rfl
theorem z_con {d : D} : wpE T C hx (.con d) env st Q X = Q d st := rfl
theorem z_glo {i : Nat} : wpE T C hx (.glo i) env st Q X = optQ (T.glo i) (lz (fun d => Q d st) .mk) := by
  unfold wpE
  cases T.glo i <;> rfl
theorem z_bin {o : Op} {a b : E} : wpE T C hx (.bin o a b) env st Q X = wpE T C hx a env st (lz (fun x s1 => wpE T C hx b env s1 (lz (fun y s2 => binQ s2 o x y Q) .mk) X) .mk) X := rfl
theorem z_neg {a : E} : wpE T C hx (.neg a) env st Q X = wpE T C hx a env st (lz (fun x s1 => intQ x (lz (fun i => Q (.int (-i)) s1) .mk)) .mk) X := rfl
theorem z_cmp {o : Cm} {a b : E} : wpE T C hx (.cmp o a b) env st Q X = wpE T C hx a env st (lz (fun x s1 => wpE T C hx b env s1 (lz (fun y s2 => cmpQ T s2 o x y (lz (fun b => Q (.bl b) s2) .mk)) .mk) X) .mk) X := rfl
theorem z_chain {o o' : Cm} {a b c : E} : wpE T C hx (.chain o o' a b c) env st Q X = wpE T C hx a env st (lz (fun x s1 => wpE T C hx b env s1 (lz (fun y s2 => cmpQ T s2 o x y (lz (fun k => ifL k (lz (fun _ => wpE T C hx c env s2 (lz (fun z s3 => cmpQ T s3 o' y z (lz (fun b => Q (.bl b) s3) .mk)) .mk) X) .mk) (lz (fun _ => Q (.bl false) s2) .mk)) .mk)) .mk) X) .mk) X := rfl
theorem z_isN {a : E} : wpE T C hx (.isN a) env st Q X = wpE T C hx a env st (lz (fun x s1 => Q (.bl (isNon x)) s1) .mk) X := by
  show wpE T C hx a env st (fun x s1 => Q (.bl (decide (x = .non))) s1) X = _
  simp only [isNon_eq, lz]
theorem z_notN {a : E} : wpE T C hx (.notN a) env st Q X = wpE T C hx a env st (lz (fun x s1 => Q (.bl (!isNon x)) s1) .mk) X := by
  show wpE T C hx a env st (fun x s1 => Q (.bl (!decide (x = .non))) s1) X = _
  simp only [isNon_eq, lz]
theorem z_and {a b : E} : wpE T C hx (.and a b) env st Q X = wpE T C hx a env st (lz (fun x s1 => boolQ x (lz (fun c => ifL c (lz (fun _ => wpE T C hx b env s1 Q X) .mk) (lz (fun _ => Q (.bl false) s1) .mk)) .mk)) .mk) X := rfl
theorem z_or {a b : E} : wpE T C hx (.or a b) env st Q X = wpE T C hx a env st (lz (fun x s1 => boolQ x (lz (fun c => ifL c (lz (fun _ => Q (.bl true) s1) .mk) (lz (fun _ => wpE T C hx b env s1 Q X) .mk)) .mk)) .mk) X := rfl
theorem z_not {a : E} : wpE T C hx (.not a) env st Q X = wpE T C hx a env st (lz (fun x s1 => boolQ x (lz (fun c => Q (.bl (!c)) s1) .mk)) .mk) X := rfl
theorem z_ife {c a b : E} : wpE T C hx (.ife c a b) env st Q X = wpT T C hx c env st (lz (fun k s1 => ifL k (lz (fun _ => wpE T C hx a env s1 Q X) .mk) (lz (fun _ => wpE T C hx b env s1 Q X) .mk)) .mk) X := rfl
theorem z_call {f : Nat} {as : A} {df : List D} : wpE T C none (.call f as df) env st Q X = wpA T C none as env st (lz (fun ds s1 => C f (ds ++ df) s1 Q X) .mk) X := propext ⟨fun h => h.2, fun h => ⟨rfl, h⟩⟩
theorem z_make {c f : Nat} {as : A} : wpE T C none (.make c f as) env st Q X = wpA T C none as env st (lz (fun ds s1 => C f (.ref s1.length :: ds) (s1 ++ [.ins c []]) (lz (fun d s2 => d = .non ∧ Q (.ref s1.length) s2) .mk) X) .mk) X := propext ⟨fun h => h.2, fun h => ⟨rfl, h⟩⟩
def methQ (x : D) (alts : List (Nat × Nat)) (st : Store) (F : Nat → Prop) : Prop := match x with
  | .ref h => (match st[h]? with
    | some (.ins c fs) => (match alts.lookup c with
      | some f => F f
      | none => False)
    | _ => False)
  | _ => False
theorem methQ_1 {h alts st F} : methQ (.ref h) alts st F = insQ st[h]? (lz (fun c _ => optQ (alts.lookup c) F) .mk) := by
  unfold methQ
  dsimp only
  cases st[h]? with
  | none => rfl
  | some o =>
    cases o with
    | ins c fs =>
      show _ = optQ (alts.lookup c) F
      dsimp only
      cases alts.lookup c <;> rfl
    | _ => rfl
theorem z_eqo {c f : Nat} {a b : E} : wpE T C none (.eqo c f a b) env st Q X = wpE T C none a env st (lz (fun x s1 => wpE T C none b env s1 (lz (fun y s2 => clsOf s2 x = some c ∧ othB s2 c y = true ∧ C f [x, y] s2 (lz (fun d s3 => (∃ b, d = .bl b) ∧ Q d s3) .mk) (fun _ _ => False)) .mk) X) .mk) X := propext ⟨fun h => h.2, fun h => ⟨rfl, h⟩⟩
theorem z_meth {alts : List (Nat × Nat)} {o : E} {as : A} : wpE T C none (.meth alts o as) env st Q X = wpE T C none o env st (lz (fun x s1 => methQ x alts s1 (lz (fun f => wpA T C none as env s1 (lz (fun ds s2 => C f (x :: ds) s2 Q X) .mk) X) .mk)) .mk) X := propext ⟨fun h => h.2, fun h => ⟨rfl, h⟩⟩
theorem z_fld {f : Nat} {o : E} : wpE T C hx (.fld f o) env st Q X = wpE T C hx o env st (lz (fun x s1 => fldQ s1 x f Q) .mk) X := rfl
theorem z_pr {p : Pr} {as : A} : wpE T C none (.pr p as) env st Q X = wpA T C none as env st (lz (fun ds s1 => prQ p ds s1 Q) .mk) X := propext ⟨fun h => h.2, fun h => ⟨rfl, h⟩⟩
theorem z_me {m : Me} {o : E} {as : A} : wpE T C hx (.me m o as) env st Q X = wpE T C hx o env st (lz (fun x s1 => meOk m s1 x ∧ wpA T C hx as env s1 (lz (fun ds s2 => meQ m x ds s2 Q) .mk) X) .mk) X := rfl
def isiQ (T : Tab) (st : Store) (x : D) (ts : List Ty) (F : Bool → Prop) : Prop := hasTy st x = true ∧ F (ts.any fun t => isTy T (tyOf st x) t)
theorem z_isi {a : E} {ts : List Ty} : wpE T C hx (.isi a ts) env st Q X = wpE T C hx a env st (lz (fun x s1 => isiQ T s1 x ts (lz (fun b => Q (.bl b) s1) .mk)) .mk) X := rfl
theorem z_idx {a b : E} : wpE T C hx (.idx a b) env st Q X = wpE T C hx a env st (lz (fun x s1 => wpE T C hx b env s1 (lz (fun y s2 => idxQ T s2 x y Q) .mk) X) .mk) X := rfl
theorem z_sli {a lo hi : E} : wpE T C hx (.sli a lo hi) env st Q X = wpE T C hx a env st (lz (fun x s1 => wpE T C hx lo env s1 (lz (fun l s2 => partQ l (lz (fun l' => wpE T C hx hi env s2 (lz (fun u s3 => partQ u (lz (fun u' => sliQ s3 x l' u' Q) .mk)) .mk) X) .mk)) .mk) X) .mk) X := rfl
theorem z_abs0 : wpE T C hx .abs0 env st Q X = Q .non st := rfl
theorem z_tup {as : A} : wpE T C hx (.tup as) env st Q X = wpA T C hx as env st (lz (fun ds s1 => Q (.tup ds) s1) .mk) X := rfl
theorem z_lst {as : A} : wpE T C hx (.lst as) env st Q X = wpA T C hx as env st (lz (fun ds s1 => Q (.ref s1.length) (s1 ++ [.lst ds])) .mk) X := rfl
theorem z_dic {as : A} : wpE T C hx (.dic as) env st Q X = wpA T C hx as env (st ++ [.dic []]) (lz (fun ds s1 => dispQ s1 st.length ds Q) .mk) X := rfl
theorem z_dcomp {kx vx it : E} {tg : Tg} {cs : A} {own : List Nat} : wpE T C none (.dcomp kx vx tg it cs own) env st Q X = wpI T C none it env st (lz (fun j s1 => ∃ n, dcmN j tg (lz (fun e s P => wpTs T C none cs e s P) .mk) (lz (fun e s P => wpE T C none kx e s P (fun _ _ => False)) .mk) (lz (fun e s P => wpE T C none vx e s P (fun _ _ => False)) .mk) s1.length Q n 0 (wipeE env own) (s1 ++ [.dic []])) .mk) X := propext ⟨fun h => h.2, fun h => ⟨rfl, h⟩⟩
theorem z_fstr {as : A} : wpE T C hx (.fstr as) env st Q X = wpF T C hx as env st [] (lz (fun y s1 => Q (.str y) s1) .mk) X := rfl
theorem z_rvl {a : E} : wpE T C hx (.rvl a) env st Q X = wpE T C hx a env st (lz (fun x s1 => rvlQ s1 x Q) .mk) X := rfl
theorem z_efld {f : Nat} {e : Exc} : wpE T C (some e) (.efld f) env st Q X = optQ (e.fs.lookup f) (lz (fun d => Q d st) .mk) := by
  show (match e.fs.lookup f with | some d => Q d st | none => False) = _
  cases e.fs.lookup f <;> rfl
theorem z_eisi {cs : List (Option Nat)} {c : Nat} : wpE T C (some ⟨c, []⟩) (.eisi cs) env st Q X = Q (.bl (cs.any (eiB T c))) st := rfl
theorem z_ei1 {c : Nat} : eiB T c none = true := rfl
theorem z_ei2 {c d : Nat} : eiB T c (some d) = T.sub c d := rfl
theorem z_comp {elt it : E} {tg : Tg} {cs : A} {own : List Nat} : wpE T C none (.comp elt tg it cs own) env st Q X = wpI T C none it env st (lz (fun j s1 => ∃ n, cmpN j tg (lz (fun e s P => wpTs T C none cs e s P) .mk) (lz (fun e s P => wpE T C none elt e s P (fun _ _ => False)) .mk) s1.length Q n 0 (wipeE env own) (s1 ++ [.lst []])) .mk) X := propext ⟨fun h => h.2, fun h => ⟨rfl, h⟩⟩
end
section
variable {Q : Bool → Store → Prop}
theorem z_Tcmp {o : Cm} {a b : E} : wpT T C hx (.cmp o a b) env st Q X = wpE T C hx a env st (lz (fun x s1 => wpE T C hx b env s1 (lz (fun y s2 => cmpQ T s2 o x y (lz (fun b => Q b s2) .mk)) .mk) X) .mk) X := rfl
theorem z_Tchain {o o' : Cm} {a b c : E} : wpT T C hx (.chain o o' a b c) env st Q X = wpE T C hx a env st (lz (fun x s1 => wpE T C hx b env s1 (lz (fun y s2 => cmpQ T s2 o x y (lz (fun k => ifL k (lz (fun _ => wpE T C hx c env s2 (lz (fun z s3 => cmpQ T s3 o' y z (lz (fun b => Q b s3) .mk)) .mk) X) .mk) (lz (fun _ => Q false s2) .mk)) .mk)) .mk) X) .mk) X := rfl
theorem z_TisN {a : E} : wpT T C hx (.isN a) env st Q X = wpE T C hx a env st (lz (fun x s1 => Q (isNon x) s1) .mk) X := by
  show wpE T C hx a env st (fun x s1 => Q (decide (x = .non)) s1) X = _
  simp only [isNon_eq, lz]
theorem z_TnotN {a : E} : wpT T C hx (.notN a) env st Q X = wpE T C hx a env st (lz (fun x s1 => Q (!isNon x) s1) .mk) X := by
  show wpE T C hx a env st (fun x s1 => Q (!decide (x = .non)) s1) X = _
  simp only [isNon_eq, lz]
theorem z_Tand {a b : E} : wpT T C hx (.and a b) env st Q X = wpT T C hx a env st (lz (fun c s1 => ifL c (lz (fun _ => wpT T C hx b env s1 Q X) .mk) (lz (fun _ => Q false s1) .mk)) .mk) X := rfl
theorem z_Tor {a b : E} : wpT T C hx (.or a b) env st Q X = wpT T C hx a env st (lz (fun c s1 => ifL c (lz (fun _ => Q true s1) .mk) (lz (fun _ => wpT T C hx b env s1 Q X) .mk)) .mk) X := rfl
theorem z_Tnot {a : E} : wpT T C hx (.not a) env st Q X = wpT T C hx a env st (lz (fun c s1 => Q (!c) s1) .mk) X := rfl
theorem z_Ttv {e : E} : wpT T C hx (.tv e) env st Q X = wpE T C hx e env st (lz (fun x s1 => truQ s1 x (lz (fun k => Q k s1) .mk)) .mk) X := rfl
end
section
variable {Q : List D → Store → Prop}
theorem z_nil : wpA T C hx .nil env st Q X = Q [] st := rfl
theorem z_cons {e : E} {as : A} : wpA T C hx (.cons e as) env st Q X = wpE T C hx e env st (lz (fun d s1 => wpA T C hx as env s1 (lz (fun ds s2 => Q (d :: ds) s2) .mk) X) .mk) X := rfl
end
theorem z_Fnil {acc : List Nat} {Q : List Nat → Store → Prop} : wpF T C hx .nil env st acc Q X = Q acc st := rfl
theorem z_Fcons {e : E} {as : A} {acc : List Nat} {Q : List Nat → Store → Prop} : wpF T C hx (.cons e as) env st acc Q X = wpE T C hx e env st (lz (fun d s1 => fmtQ d (lz (fun y => (acc ++ y).length ≤ line ∧ wpF T C hx as env s1 (acc ++ y) Q X) .mk)) .mk) X := rfl
theorem z_Tsn {Q : Bool → Store → Prop} : wpTs T C hx .nil env st Q = Q true st := rfl
theorem z_Ts1 {e : E} {Q : Bool → Store → Prop} : wpTs T C hx (.cons e .nil) env st Q = wpT T C hx e env st Q (lz (fun _ _ => False) .mk) := rfl
section
variable {R : J → Store → Prop}
theorem z_rng1 {a : E} : wpI T C hx (.rng1 a) env st R X = wpE T C hx a env st (lz (fun x s1 => intQ x (lz (fun n => -(2 ^ 62) ≤ n ∧ n < 2 ^ 62 ∧ R (.seq (rngD 0 n.toNat)) s1) .mk)) .mk) X := rfl
def int2Q (x y : D) (F : Int → Int → Prop) : Prop := match x, y with
  | .int m, .int n => F m n
  | _, _ => False
theorem int2Q_1 {m n F} : int2Q (.int m) (.int n) F = F m n := rfl
theorem z_rng2 {a b : E} : wpI T C hx (.rng2 a b) env st R X = wpE T C hx a env st (lz (fun x s1 => wpE T C hx b env s1 (lz (fun y s2 => int2Q x y (lz (fun m n => (-(2 ^ 62) ≤ m ∧ m < 2 ^ 62 ∧ -(2 ^ 62) ≤ n ∧ n < 2 ^ 62) ∧ R (.seq (rngD m (n - m).toNat)) s2) .mk)) .mk) X) .mk) X := rfl
theorem z_rev {a : E} : wpI T C hx (.rev a) env st R X = wpE T C hx a env st (lz (fun x s1 => revQ s1 x (lz (fun j => R j s1) .mk)) .mk) X := rfl
theorem z_enm {a : E} : wpI T C hx (.enm a) env st R X = wpE T C hx a env st (lz (fun x s1 => enmQ s1 x (lz (fun j => R j s1) .mk)) .mk) X := rfl
theorem z_zip {a b : E} : wpI T C hx (.zip a b) env st R X = wpE T C hx a env st (lz (fun x s1 => wpE T C hx b env s1 (lz (fun y s2 => zipQ s2 x y (lz (fun j => R j s2) .mk)) .mk) X) .mk) X := rfl
theorem z_sq {e : E} : wpI T C hx (.sq e) env st R X = wpE T C hx e env st (lz (fun x s1 => walkQ s1 x (lz (fun j => R j s1) .mk)) .mk) X := rfl
end
section
variable {k : K}
theorem z_Bnil : wpB T C hx .nil env st k = k.nx env st := rfl
theorem z_Bcons {s : S} {b : B} : wpB T C hx (.cons s b) env st k = wpS T C hx s env st (ks T C hx b k .mk) := rfl
theorem z_asg {i : Nat} {e : E} : wpS T C hx (.asg (.nm i) e) env st k = wpE T C hx e env st (lz (fun d s1 => k.nx (env.set i (some d)) s1) .mk) (lz (fun x s1 => k.xc x env s1) .mk) := propext ⟨fun h => h.2, fun h => ⟨trivial, h⟩⟩
theorem z_asgt {is : List Nat} {e : E} : wpS T C none (.asg (.tp is) e) env st k = wpE T C none e env st (lz (fun d s1 => bindQ (.tp is) d env (lz (fun env' => k.nx env' s1) .mk)) .mk) (lz (fun x s1 => k.xc x env s1) .mk) := propext ⟨fun h => h.2, fun h => ⟨rfl, h⟩⟩
theorem z_asg2 {i j : Nat} {a b : E} : wpS T C none (.asg2 i j a b) env st k = wpE T C none a env st (lz (fun x s1 => wpE T C none b env s1 (lz (fun y s2 => k.nx ((env.set i (some x)).set j (some y)) s2) .mk) (lz (fun x s1 => k.xc x env s1) .mk)) .mk) (lz (fun x s1 => k.xc x env s1) .mk) := propext ⟨fun h => h.2, fun h => ⟨rfl, h⟩⟩
theorem z_setf {o e : E} {f : Nat} : wpS T C hx (.setf o f e) env st k = wpE T C hx e env st (lz (fun v s1 => wpE T C hx o env s1 (lz (fun x s2 => setfQ s2 x f v (lz (fun s3 => k.nx env s3) .mk)) .mk) (lz (fun x s1 => k.xc x env s1) .mk)) .mk) (lz (fun x s1 => k.xc x env s1) .mk) := rfl
theorem z_seti {o i e : E} : wpS T C hx (.seti o i e) env st k = wpE T C hx e env st (lz (fun v s1 => wpE T C hx o env s1 (lz (fun x s2 => wpE T C hx i env s2 (lz (fun y s3 => setQ s3 x y v (lz (fun s4 => k.nx env s4) .mk)) .mk) (lz (fun x s1 => k.xc x env s1) .mk)) .mk) (lz (fun x s1 => k.xc x env s1) .mk)) .mk) (lz (fun x s1 => k.xc x env s1) .mk) := rfl
def augQ (op : Op) (x y : D) (F : Int → Prop) : Prop := match op, x, y with
  | .add, .int a, .int b => F (a + b)
  | .sub, .int a, .int b => F (a - b)
  | _, _, _ => False
theorem augQ_1 {a b F} : augQ .add (.int a) (.int b) F = F (a + b) := rfl
theorem augQ_2 {a b F} : augQ .sub (.int a) (.int b) F = F (a - b) := rfl
theorem z_augn {i : Nat} {op : Op} {e : E} : wpS T C hx (.augn i op e) env st k = getV env i (lz (fun x => wpE T C hx e env st (lz (fun y s1 => augQ op x y (lz (fun n => k.nx (env.set i (some (.int n))) s1) .mk)) .mk) (lz (fun x s1 => k.xc x env s1) .mk)) .mk) := by
  show getV env i (fun x => wpE T C hx e env st (fun y s1 => (match op, x, y with
    | .add, .int a, .int b => k.nx (env.set i (some (.int (a + b)))) s1
    | .sub, .int a, .int b => k.nx (env.set i (some (.int (a - b)))) s1
    | _, _, _ => False)) fun x s1 => k.xc x env s1) = _
  have : ∀ x y s1, (match op, x, y with
    | .add, .int a, .int b => k.nx (env.set i (some (.int (a + b)))) s1
    | .sub, .int a, .int b => k.nx (env.set i (some (.int (a - b)))) s1
    | _, _, _ => False) = augQ op x y (fun n => k.nx (env.set i (some (.int n))) s1) := fun x y s1 => by
    cases op <;> cases x <;> cases y <;> rfl
  simp only [this, lz]
theorem z_augf {o : E} {f : Nat} {op : Op} {e : E} : wpS T C hx (.augf o f op e) env st k = wpE T C hx o env st (lz (fun x s1 => fldQ s1 x f (lz (fun v s1 => wpE T C hx e env s1 (lz (fun y s2 => augQ op v y (lz (fun n => clsOf s2 x = clsOf s1 x ∧ setfQ s2 x f (.int n) (lz (fun s3 => k.nx env s3) .mk)) .mk)) .mk) (lz (fun x s1 => k.xc x env s1) .mk)) .mk)) .mk) (lz (fun x s1 => k.xc x env s1) .mk) := by
  show wpE T C hx o env st (fun x s1 => fldQ s1 x f fun v s1 => wpE T C hx e env s1 (fun y s2 => (match op, v, y with
    | .add, .int a, .int b => clsOf s2 x = clsOf s1 x ∧ setfQ s2 x f (.int (a + b)) fun s3 => k.nx env s3
    | .sub, .int a, .int b => clsOf s2 x = clsOf s1 x ∧ setfQ s2 x f (.int (a - b)) fun s3 => k.nx env s3
    | _, _, _ => False)) fun x s1 => k.xc x env s1) (fun x s1 => k.xc x env s1) = _
  have : ∀ x v y s1 s2, (match op, v, y with
    | .add, .int a, .int b => clsOf s2 x = clsOf s1 x ∧ setfQ s2 x f (.int (a + b)) fun s3 => k.nx env s3
    | .sub, .int a, .int b => clsOf s2 x = clsOf s1 x ∧ setfQ s2 x f (.int (a - b)) fun s3 => k.nx env s3
    | _, _, _ => False) = augQ op v y (fun n => clsOf s2 x = clsOf s1 x ∧ setfQ s2 x f (.int n) (fun s3 => k.nx env s3)) := fun x v y s1 s2 => by
    cases op <;> cases v <;> cases y <;> rfl
  simp only [this, lz]
theorem z_exp {e : E} : wpS T C hx (.exp e) env st k = wpE T C hx e env st (lz (fun _ s1 => k.nx env s1) .mk) (lz (fun x s1 => k.xc x env s1) .mk) := rfl
theorem z_ret {e : E} : wpS T C hx (.ret e) env st k = wpE T C hx e env st (lz (fun d s1 => k.rt d s1) .mk) (lz (fun x s1 => k.xc x env s1) .mk) := rfl
theorem z_retN : wpS T C hx .retN env st k = k.rt .non st := rfl
theorem z_if {c : E} {a b : B} : wpS T C hx (.ifS c a b) env st k = wpT T C hx c env st (lz (fun t s1 => ifL t (lz (fun _ => wpB T C hx a env s1 k) .mk) (lz (fun _ => wpB T C hx b env s1 k) .mk)) .mk) (lz (fun x s1 => k.xc x env s1) .mk) := rfl
theorem z_for {tg : Tg} {it : E} {b : B} : wpS T C none (.forS tg it b) env st k = wpI T C none it env st (lz (fun j s1 => ∃ n, forN j tg (lz (fun e s k' => wpB T C none b e s k') .mk) k n 0 env s1) .mk) (lz (fun x s1 => k.xc x env s1) .mk) := propext ⟨fun h => h.2, fun h => ⟨rfl, h⟩⟩
theorem z_whl {c : E} {b : B} : wpS T C none (.whl c b) env st k = ∃ n, whlN (lz (fun e s P => wpT T C none c e s P (lz (fun x s1 => k.xc x e s1) .mk)) .mk) (lz (fun e s k' => wpB T C none b e s k') .mk) k n env st := propext ⟨fun h => h.2, fun h => ⟨rfl, h⟩⟩
theorem z_brk : wpS T C hx .brk env st k = k.bk env st := rfl
theorem z_cnt : wpS T C hx .cnt env st k = k.ct env st := rfl
theorem z_pas : wpS T C hx .pas env st k = k.nx env st := rfl
theorem z_rais0 {c : Nat} : wpS T C none (.rais c .nil) env st k = optQ (T.exf c) (lz (fun o => o = none ∧ k.xc ⟨c, []⟩ env st) .mk) := by
  show (none = none ∧ _) = _
  cases h : T.exf c with
  | none => exact propext ⟨fun h => h.2, fun h => h.elim⟩
  | some o => cases o with
    | none => exact propext ⟨fun h => ⟨rfl, h.2⟩, fun h => ⟨rfl, h.2⟩⟩
    | some f => exact propext ⟨fun h => h.2.elim, fun h => by cases h.1⟩
theorem z_rais1 {c : Nat} {e : E} : wpS T C none (.rais c (.cons e .nil)) env st k = optQ (T.exf c) (lz (fun o => optQ o (lz (fun f => wpE T C none e env st (lz (fun d s1 => k.xc ⟨c, [(f, d)]⟩ env s1) .mk) (lz (fun x s1 => k.xc x env s1) .mk)) .mk)) .mk) := by
  show (none = none ∧ _) = _
  cases h : T.exf c with
  | none => exact propext ⟨fun h => h.2, fun h => h.elim⟩
  | some o => cases o with
    | none => exact propext ⟨fun h => h.2, fun h => h.elim⟩
    | some f => exact propext ⟨fun h => h.2, fun h => ⟨rfl, h⟩⟩
theorem z_try {b : B} {hs : Hs} : wpS T C none (.tryS b hs) env st k = wpB T C none b env st (kt T C hs k .mk) := propext ⟨fun h => h.2, fun h => ⟨rfl, h⟩⟩
theorem z_Hnil {e : Exc} : wpH T C .nil e env st k = k.xc e env st := rfl
theorem z_Hcons {c : Nat} {nm : Option Nat} {b : B} {hs : Hs} {e : Exc} : wpH T C (.cons c nm b hs) e env st k = ifL (T.sub e.cls c) (lz (fun _ => wpB T C (some e) b (unset nm env) st (kh k nm .mk)) .mk) (lz (fun _ => wpH T C hs e env st k) .mk) := rfl
end
theorem call_z {k f : Nat} {ds : List D} {Q : QE} (fn : Fn) (h : T.fn f = some fn) (hl : ds.length = fn.np)
    (b : wpB T (Call T k) none fn.body (ds.map some ++ List.replicate (fn.ns - fn.np) none) st (kc Q X .mk .mk)) : Call T (k + 1) f ds st Q X := call_go fn h hl b
section
variable {Q : QE} {a b i : Int}
theorem v_v0 {d : D} {Q : D → Prop} : getV (some d :: env) 0 Q = Q d := rfl
theorem v_vs {a : Option D} {i : Nat} {Q : D → Prop} : getV (a :: env) (i + 1) Q = getV env i Q := getV_s a env i Q
theorem v_add : binQ st .add (.int a) (.int b) Q = Q (.int (a + b)) st := rfl
theorem v_sub : binQ st .sub (.int a) (.int b) Q = Q (.int (a - b)) st := rfl
def mulOk (a b : Int) : Prop := (-(2 ^ 64) < a ∧ a < 2 ^ 64) ∨ (-(2 ^ 64) < b ∧ b < 2 ^ 64)
theorem v_mul : binQ st .mul (.int a) (.int b) Q = (mulOk a b ∧ Q (.int (a * b)) st) := rfl
theorem v_fdiv : binQ st .fdiv (.int a) (.int b) Q = ((0 < b ∧ b < 1073741824) ∧ Q (.int (a / b)) st) := propext ⟨fun h => ⟨⟨h.1, h.2.1⟩, h.2.2⟩, fun h => ⟨h.1.1, h.1.2, h.2⟩⟩
theorem v_tmul {a : List D} {k : Int} : binQ st .mul (.tup a) (.int k) Q = ((-(2 ^ 63) ≤ k ∧ k < 2 ^ 63 ∧ a.length * k.toNat ≤ line) ∧ Q (.tup (List.replicate k.toNat a).flatten) st) := propext ⟨fun h => ⟨⟨h.1, h.2.1, h.2.2.1⟩, h.2.2.2⟩, fun h => ⟨h.1.1, h.1.2.1, h.1.2.2, h.2⟩⟩
theorem v_smul {a : List Nat} {k : Int} : binQ st .mul (.str a) (.int k) Q = ((-(2 ^ 63) ≤ k ∧ k < 2 ^ 63 ∧ a.length * k.toNat ≤ line) ∧ Q (.str (List.replicate k.toNat a).flatten) st) := propext ⟨fun h => ⟨⟨h.1, h.2.1, h.2.2.1⟩, h.2.2.2⟩, fun h => ⟨h.1.1, h.1.2.1, h.1.2.2, h.2⟩⟩
theorem v_mod : binQ st .mod (.int a) (.int b) Q = (0 < b ∧ Q (.int (a % b)) st) := rfl
theorem v_pow : binQ st .pow (.int a) (.int b) Q = ((0 ≤ b ∧ b ≤ 1000000 ∧ a.natAbs < 2 ^ 64) ∧ Q (.int (a ^ b.toNat)) st) := propext ⟨fun h => ⟨⟨h.1, h.2.1, h.2.2.1⟩, h.2.2.2⟩, fun h => ⟨h.1.1, h.1.2.1, h.1.2.2, h.2⟩⟩
theorem v_sadd {x y : List Nat} : binQ st .add (.str x) (.str y) Q = (x.length + y.length ≤ line ∧ Q (.str (x ++ y)) st) := rfl
theorem v_tadd {x y : List D} : binQ st .add (.tup x) (.tup y) Q = (x.length + y.length ≤ line ∧ Q (.tup (x ++ y)) st) := rfl
theorem v_ladd {h g : Nat} : binQ st .add (.ref h) (.ref g) Q = lstQ st[h]? (lz (fun a => lstQ st[g]? (lz (fun b => a.length + b.length ≤ line ∧ Q (.ref st.length) (st ++ [.lst (a ++ b)])) .mk)) .mk) := by
  unfold binQ
  dsimp only
  cases st[h]? with
  | none => rfl
  | some o =>
    cases o with
    | lst a =>
      show _ = lstQ st[g]? _
      cases st[g]? with
      | none => rfl
      | some o => cases o <;> rfl
    | _ => rfl
theorem v_lmul {h : Nat} {k : Int} : binQ st .mul (.ref h) (.int k) Q = lstQ st[h]? (lz (fun a => (-(2 ^ 63) ≤ k ∧ k < 2 ^ 63 ∧ a.length * k.toNat ≤ line) ∧ Q (.ref st.length) (st ++ [.lst (List.replicate k.toNat a).flatten])) .mk) := by
  unfold binQ
  dsimp only
  cases st[h]? with
  | none => rfl
  | some o =>
    cases o with
    | lst a => exact propext ⟨fun h => ⟨⟨h.1, h.2.1, h.2.2.1⟩, h.2.2.2⟩, fun h => ⟨h.1.1, h.1.2.1, h.1.2.2, h.2⟩⟩
    | _ => rfl
theorem v_int : prQ .int [.int i] st Q = Q (.int i) st := rfl
theorem v_intb {k : Bool} : prQ .int [.bl k] st Q = Q (.int (if k then 1 else 0)) st := rfl
theorem v_abs : prQ .abs [.int i] st Q = Q (.int (if i < 0 then -i else i)) st := rfl
theorem v_max2 : prQ .max2 [.int a, .int b] st Q = Q (.int (if b > a then b else a)) st := rfl
theorem v_min2 : prQ .min2 [.int a, .int b] st Q = Q (.int (if b < a then b else a)) st := rfl
theorem v_stri : prQ .str [.int i] st Q = (i.natAbs.log2 < 1920 ∧ Q (.str (decI i)) st) := rfl
theorem v_strs : prQ .str [.str x] st Q = Q (.str x) st := rfl
theorem v_lens {x : List Nat} : prQ .len [.str x] st Q = (x.length ≤ line ∧ Q (.int x.length) st) := rfl
theorem v_lenm {α : Type} {f : α → D} {x : List α} : prQ .len [.tup (x.map f)] st Q = Q (.int (x.map f).length) st := rfl
theorem v_len0 : prQ .len [.tup []] st Q = Q (.int 0) st := rfl
theorem v_len1 {a : D} : prQ .len [.tup [a]] st Q = Q (.int 1) st := rfl
theorem v_len2 {a b : D} : prQ .len [.tup [a, b]] st Q = Q (.int 2) st := rfl
theorem v_len3 {a b c : D} : prQ .len [.tup [a, b, c]] st Q = Q (.int 3) st := rfl
theorem v_len4 {a b c d : D} : prQ .len [.tup [a, b, c, d]] st Q = Q (.int 4) st := rfl
theorem v_len5 {a b c d e : D} : prQ .len [.tup [a, b, c, d, e]] st Q = Q (.int 5) st := rfl
theorem v_len6 {a b c d e f : D} : prQ .len [.tup [a, b, c, d, e, f]] st Q = Q (.int 6) st := rfl
theorem v_lent {x : List D} : prQ .len [.tup x] st Q = Q (.int x.length) st := rfl
theorem v_lenr {h : Nat} : prQ .len [.ref h] st Q = cntQ st[h]? (lz (fun x => Q (.int x) st) .mk) := by
  unfold prQ
  dsimp only
  cases st[h]? with
  | none => rfl
  | some o => cases o <;> rfl
theorem v_tupt {x : List D} : prQ .tuple [.tup x] st Q = Q (.tup x) st := rfl
theorem v_tupr {h : Nat} : prQ .tuple [.ref h] st Q = sqQ st[h]? (lz (fun x => Q (.tup x) st) .mk) := by
  unfold prQ
  dsimp only
  cases st[h]? with
  | none => rfl
  | some o => cases o <;> rfl
theorem v_lstt {x : List D} : prQ .list [.tup x] st Q = Q (.ref st.length) (st ++ [.lst x]) := rfl
theorem v_lstr {h : Nat} : prQ .list [.ref h] st Q = sqQ st[h]? (lz (fun x => Q (.ref st.length) (st ++ [.lst x])) .mk) := by
  unfold prQ
  dsimp only
  cases st[h]? with
  | none => rfl
  | some o => cases o <;> rfl
theorem v_any {h : Nat} : prQ .any [.ref h] st Q = lstQ st[h]? (lz (fun x => ∃ bs : List Bool, x = bs.map D.bl ∧ Q (.bl (bs.any id)) st) .mk) := by
  unfold prQ
  dsimp only
  cases st[h]? with
  | none => rfl
  | some o => cases o <;> rfl
theorem v_all {h : Nat} : prQ .all [.ref h] st Q = lstQ st[h]? (lz (fun x => ∃ bs : List Bool, x = bs.map D.bl ∧ Q (.bl (bs.all id)) st) .mk) := by
  unfold prQ
  dsimp only
  cases st[h]? with
  | none => rfl
  | some o => cases o <;> rfl
theorem v_ixt {x : List D} : idxQ T st (.tup x) (.int i) Q = getIx x i (lz (fun c => Q c st) .mk) := rfl
theorem v_ixr {h : Nat} {y : D} : idxQ T st (.ref h) y Q = ixrQ st[h]? y (lz (fun c => Q c st) .mk) := by
  unfold idxQ
  dsimp only
  cases st[h]? with
  | none => rfl
  | some o =>
    cases o with
    | dic kvs =>
      show (_ ∧ _) = (_ ∧ optQ (getK kvs y) _)
      cases e : getK kvs y with
      | none => exact propext ⟨fun ⟨_, d, h, _⟩ => (by cases h), fun h => h.2.elim⟩
      | some d => exact propext ⟨fun ⟨a, d', h, q⟩ => ⟨a, (by cases h; exact q)⟩, fun h => ⟨h.1, d, rfl, h.2⟩⟩
    | _ => rfl
theorem v_kon {k : Nat} {y : D} : idxQ T st (.kon k) y Q = optQ (getC (T.kon k) y) (lz (fun c => Q c st) .mk) := by
  show (∃ v, getC (T.kon k) y = some v ∧ Q v st) = _
  cases getC (T.kon k) y with
  | none => exact propext ⟨fun ⟨v, h, _⟩ => (by cases h), fun h => h.elim⟩
  | some v => exact propext ⟨fun ⟨v', h, q⟩ => (by cases h; exact q), fun h => ⟨v, rfl, h⟩⟩
theorem v_seti {h : Nat} {y v : D} {R : Store → Prop} : setQ st (.ref h) y v R = strQ st[h]? y v (lz (fun o => R (st.set h o)) .mk) := by
  unfold setQ
  dsimp only
  cases st[h]? with
  | none => rfl
  | some o =>
    cases o with
    | lst xs =>
      refine propext ⟨fun ⟨k, j, e, e2, q⟩ => ⟨k, e, ?_⟩, fun ⟨k, e, q⟩ => ?_⟩
      · rw [e2]
        exact q
      · cases e2 : ixOf xs.length k with
        | none => rw [e2] at q; exact q.elim
        | some j => rw [e2] at q; exact ⟨k, j, e, e2, q⟩
    | _ => rfl
theorem strQ_1 {xs : List D} {i : Int} {v : D} {F : O → Prop} : strQ (some (.lst xs)) (.int i) v F = setIx xs i v (lz (fun y => F (.lst y)) .mk) := by
  refine propext ⟨fun ⟨j, e, h⟩ => ?_, fun h => ⟨i, rfl, ?_⟩⟩
  · cases e
    unfold setIx
    cases e2 : ixOf xs.length i with
    | none => rw [e2] at h; exact h
    | some j => rw [e2] at h; exact h
  · unfold setIx at h
    cases e2 : ixOf xs.length i with
    | none => rw [e2] at h; exact h
    | some j => rw [e2] at h; exact h
theorem strQ_2 {kvs : List (D × D)} {x : List Nat} {v : D} {F : O → Prop} : strQ (some (.dic kvs)) (.str x) v F = (kvs.length < line ∧ F (.dic (putK kvs (.str x) v))) := propext ⟨fun h => h.2, fun h => ⟨rfl, h⟩⟩
theorem strQ_3 {kvs : List (D × D)} {x : Int} {v : D} {F : O → Prop} : strQ (some (.dic kvs)) (.int x) v F = (kvs.length < line ∧ F (.dic (putK kvs (.int x) v))) := propext ⟨fun h => h.2, fun h => ⟨rfl, h⟩⟩
theorem v_pts {R : Option Int → Prop} : partQ (.int i) R = R (some i) := rfl
theorem v_ptn {R : Option Int → Prop} : partQ .non R = R none := rfl
theorem v_sls {z : List Nat} {lo hi : Option Int} : sliQ st (.str z) lo hi Q = (z.length ≤ line ∧ Q (.str (cutL z lo hi)) st) := rfl
theorem v_slt {z : List D} {lo hi : Option Int} : sliQ st (.tup z) lo hi Q = Q (.tup (cutL z lo hi)) st := rfl
theorem v_slr {h : Nat} {lo hi : Option Int} : sliQ st (.ref h) lo hi Q = sqQ st[h]? (lz (fun x => Q (.ref st.length) (st ++ [.lst (cutL x lo hi)])) .mk) := by
  unfold sliQ
  dsimp only
  cases st[h]? with
  | none => rfl
  | some o => cases o <;> rfl
theorem v_fld {h f : Nat} : fldQ st (.ref h) f Q = insQ st[h]? (lz (fun _ fs => optQ (fs.lookup f) (lz (fun d => Q d st) .mk)) .mk) := by
  unfold fldQ
  dsimp only
  cases st[h]? with
  | none => rfl
  | some o =>
    cases o with
    | ins c fs =>
      show _ = optQ (fs.lookup f) _
      dsimp only
      cases fs.lookup f <;> rfl
    | _ => rfl
theorem v_setf {h f : Nat} {v : D} {R : Store → Prop} : setfQ st (.ref h) f v R = insQ st[h]? (lz (fun c fs => fewF 999 fs ∧ R (st.set h (.ins c (putF f v fs)))) .mk) := by
  unfold setfQ
  dsimp only
  cases st[h]? with
  | none => rfl
  | some o =>
    cases o with
    | ins c fs =>
      show (fs.length < 1000 ∧ _) = (fewF 999 fs ∧ _)
      rw [fewF_iff]
      exact propext ⟨fun h => ⟨by omega, h.2⟩, fun h => ⟨by omega, h.2⟩⟩
    | _ => rfl
theorem v_okl {m : Me} {h : Nat} : meOk m st (.ref h) = (match st[h]? with
    | some (.lst _) => meT m = .list
    | some (.dic _) => meT m = .dict
    | _ => False) := rfl
theorem v_oks {m : Me} {x : List Nat} : meOk m st (.str x) = (meT m = .str) := rfl
theorem v_app {h : Nat} {d : D} : meQ .append (.ref h) [d] st Q = lstQ st[h]? (lz (fun x => x.length < line ∧ Q .non (st.set h (.lst (x ++ [d])))) .mk) := by
  unfold meQ
  dsimp only
  cases st[h]? with
  | none => rfl
  | some o => cases o <;> rfl
theorem v_pop {h : Nat} : meQ .pop (.ref h) [] st Q = lstQ st[h]? (lz (fun xs => optQ xs[xs.length - 1]? (lz (fun d => Q d (st.set h (.lst xs.dropLast))) .mk)) .mk) := by
  unfold meQ
  dsimp only
  cases st[h]? with
  | none => rfl
  | some o =>
    cases o with
    | lst xs =>
      show _ = optQ xs[xs.length - 1]? _
      cases e : xs[xs.length - 1]? with
      | none => exact propext ⟨fun ⟨d, h, _⟩ => (by rw [e] at h; cases h), fun h => h.elim⟩
      | some d => exact propext ⟨fun ⟨d', h, q⟩ => (by rw [e] at h; cases h; exact q), fun h => ⟨d, e, h⟩⟩
    | _ => rfl
end
section
variable {Q : Bool → Prop} {a b : Int} {x y : List Nat} {c d : Bool}
def dkQ (o : Option O) (k : D) (F : Option D → Prop) : Prop := match o with
  | some (.dic kvs) => keyD k = true ∧ F (getK kvs k)
  | _ => False
theorem v_dk1 {kvs : List (D × D)} {x : List Nat} {F : Option D → Prop} : dkQ (some (.dic kvs)) (.str x) F = F (getK kvs (.str x)) := propext ⟨fun h => h.2, fun h => ⟨rfl, h⟩⟩
theorem v_dk2 {kvs : List (D × D)} {x : Int} {F : Option D → Prop} : dkQ (some (.dic kvs)) (.int x) F = F (getK kvs (.int x)) := propext ⟨fun h => h.2, fun h => ⟨rfl, h⟩⟩
theorem v_get2 {Q : QE} {h : Nat} {k d : D} : meQ .get2 (.ref h) [k, d] st Q = dkQ st[h]? k (lz (fun o => Q (o.getD d) st) .mk) := by
  unfold meQ
  dsimp only
  cases st[h]? with
  | none => rfl
  | some o => cases o <;> rfl
theorem v_get1 {Q : QE} {h : Nat} {k : D} : meQ .get1 (.ref h) [k] st Q = dkQ st[h]? k (lz (fun o => Q (o.getD .non) st) .mk) := by
  unfold meQ
  dsimp only
  cases st[h]? with
  | none => rfl
  | some o => cases o <;> rfl
theorem v_insl {Q : QE} {h : Nat} {i : Int} {d : D} : meQ .insert (.ref h) [.int i, d] st Q = lstQ st[h]? (lz (fun xs => xs.length < line ∧ (0 ≤ i ∧ i < 2 ^ 63) ∧ Q .non (st.set h (.lst (xs.take i.toNat ++ [d] ++ xs.drop i.toNat)))) .mk) := by
  unfold meQ
  dsimp only
  cases st[h]? with
  | none => rfl
  | some o => cases o <;> rfl
theorem v_revl {Q : QE} {h : Nat} : meQ .reverse (.ref h) [] st Q = lstQ st[h]? (lz (fun xs => Q .non (st.set h (.lst xs.reverse))) .mk) := by
  unfold meQ
  dsimp only
  cases st[h]? with
  | none => rfl
  | some o => cases o <;> rfl
theorem v_upr {Q : QE} {x : List Nat} : meQ .upper (.str x) [] st Q = (x.length ≤ 5592405 ∧ Q (.str (Txt.upper ⟨x.toArray⟩).cps.toList) st) := rfl
theorem v_sti {Q : QE} {x y : List Nat} : meQ .sindex (.str x) [.str y] st Q = ∃ i r, Builtin.Str.occurrences ⟨x.toArray⟩ ⟨y.toArray⟩ 0 x.length 1 = i :: r ∧ Q (.int (i : Nat)) st := rfl
theorem v_sts {Q : QE} {x y : List Nat} : meQ .starts (.str x) [.str y] st Q = Q (.bl (Txt.startswith ⟨x.toArray⟩ ⟨y.toArray⟩)) st := rfl
theorem v_stc {Q : QE} {x y : List Nat} : meQ .scount (.str x) [.str y] st Q = Q (.int (Txt.count ⟨x.toArray⟩ ⟨y.toArray⟩)) st := rfl
theorem v_rvl {Q : QE} {h : Nat} : rvlQ st (.ref h) Q = sqQ st[h]? (lz (fun ds => Q (.ref st.length) (st ++ [.lst ds.reverse])) .mk) := by
  unfold rvlQ
  dsimp only
  cases st[h]? with
  | none => rfl
  | some o => cases o <;> rfl
theorem v_lt : cmpQ T st .lt (.int a) (.int b) Q = Q (decide (a < b)) := rfl
theorem v_le : cmpQ T st .le (.int a) (.int b) Q = Q (decide (a ≤ b)) := rfl
theorem v_gt : cmpQ T st .gt (.int a) (.int b) Q = Q (decide (b < a)) := rfl
theorem v_ge : cmpQ T st .ge (.int a) (.int b) Q = Q (decide (b ≤ a)) := rfl
theorem v_isb {c d : Bool} {Q : Bool → Prop} : cmpQ T st .isb (.bl c) (.bl d) Q = Q (decide (c = d)) := rfl
theorem v_nsb {c d : Bool} {Q : Bool → Prop} : cmpQ T st .nsb (.bl c) (.bl d) Q = Q (!decide (c = d)) := rfl
theorem v_eq {x y : D} : cmpQ T st .eq x y Q = eqQ st x y Q := rfl
theorem v_deq {x y : D} : cmpQ T st .deq x y Q = (twoD x y = true ∧ ∃ n b, n ≤ 60 ∧ EqR st n x y b ∧ Q b) := rfl
theorem v_ne {x y : D} : cmpQ T st .ne x y Q = eqQ st x y (lz (fun b => Q (!b)) .mk) := rfl
theorem v_in {x y : D} : cmpQ T st .inn x y Q = inQ T st x y Q := rfl
theorem v_ni {x y : D} : cmpQ T st .nin x y Q = inQ T st x y (lz (fun b => Q (!b)) .mk) := rfl
theorem v_eqii : eqQ st (.int a) (.int b) Q = Q (decide (a = b)) := rfl
theorem v_eqss : eqQ st (.str x) (.str y) Q = Q (decide (x = y)) := rfl
theorem v_eqbb : eqQ st (.bl c) (.bl d) Q = Q (decide (c = d)) := rfl
theorem v_eqsi : eqQ st (.str x) (.int b) Q = Q false := rfl
theorem v_eqis : eqQ st (.int a) (.str y) Q = Q false := rfl
theorem v_eqni : eqQ st .non (.int b) Q = Q false := rfl
theorem v_eqin : eqQ st (.int a) .non Q = Q false := rfl
theorem v_eqns : eqQ st .non (.str y) Q = Q false := rfl
theorem v_eqsn : eqQ st (.str x) .non Q = Q false := rfl
theorem v_trn : truQ st .non Q = Q false := rfl
theorem v_trb : truQ st (.bl c) Q = Q c := rfl
theorem v_tri : truQ st (.int a) Q = Q (a != 0) := rfl
theorem v_trt {x : List D} : truQ st (.tup x) Q = Q (!x.isEmpty) := rfl
theorem v_trr {h : Nat} : truQ st (.ref h) Q = lstQ st[h]? (lz (fun ds => Q (!ds.isEmpty)) .mk) := by
  unfold truQ
  dsimp only
  cases st[h]? with
  | none => rfl
  | some o => cases o <;> rfl
theorem v_trs : truQ st (.str x) Q = (x.length ≤ line ∧ Q (!x.isEmpty)) := rfl
theorem v_fms {Q : List Nat → Prop} : fmtQ (.str x) Q = (x.length ≤ line ∧ Q x) := rfl
theorem v_fmi {Q : List Nat → Prop} : fmtQ (.int a) Q = (a.natAbs.log2 < 1920 ∧ Q (decI a)) := rfl
theorem v_inp {ds : List D} {x : D} : inQ T st x (.tup ds) Q = (flatD x = true ∧ ds.all flatD = true ∧ Q (inD x ds)) := by cases x <;> rfl
def inrQ (o : Option O) (x : D) (F : Bool → Prop) : Prop := match o with
  | some (.lst ds) => flatD x = true ∧ ds.all flatD = true ∧ F (inD x ds)
  | some (.dic kvs) => keyD x = true ∧ F (getK kvs x).isSome
  | _ => False
theorem inrQ_1 {ds : List D} {x : D} {F : Bool → Prop} : inrQ (some (.lst ds)) x F = (flatD x = true ∧ ds.all flatD = true ∧ F (inD x ds)) := rfl
theorem inrQ_2 {kvs : List (D × D)} {x : List Nat} {F : Bool → Prop} : inrQ (some (.dic kvs)) (.str x) F = F (getK kvs (.str x)).isSome := propext ⟨fun h => h.2, fun h => ⟨rfl, h⟩⟩
theorem inrQ_3 {kvs : List (D × D)} {x : Int} {F : Bool → Prop} : inrQ (some (.dic kvs)) (.int x) F = F (getK kvs (.int x)).isSome := propext ⟨fun h => h.2, fun h => ⟨rfl, h⟩⟩
theorem v_inl {h : Nat} {x : D} : inQ T st x (.ref h) Q = inrQ st[h]? x Q := by
  cases x <;> (unfold inQ; dsimp only; cases st[h]? with
    | none => rfl
    | some o => cases o <;> rfl)
theorem v_inK {k : Nat} : inQ T st (.str x) (.kon k) Q = (T.kon k ≠ [] ∧ Q (getC (T.kon k) (.str x)).isSome) := propext ⟨fun ⟨h, a, e, q⟩ => ⟨h, q⟩, fun h => ⟨h.1, x, rfl, h.2⟩⟩
theorem v_ins : inQ T st (.str x) (.str y) Q = Q (!(Builtin.Str.occurrences ⟨y.toArray⟩ ⟨x.toArray⟩ 0 y.length 1).isEmpty) := rfl
section
variable {ts : List Ty} {F : Bool → Prop}
theorem t_n : isiQ T st .non ts F = F (ts.any fun t => isTy T none t) := propext ⟨fun h => h.2, fun h => ⟨rfl, h⟩⟩
theorem t_b : isiQ T st (.bl c) ts F = F (ts.any fun t => isTy T (some .bool) t) := propext ⟨fun h => h.2, fun h => ⟨rfl, h⟩⟩
theorem t_i : isiQ T st (.int a) ts F = F (ts.any fun t => isTy T (some .int) t) := propext ⟨fun h => h.2, fun h => ⟨rfl, h⟩⟩
theorem t_s : isiQ T st (.str x) ts F = F (ts.any fun t => isTy T (some .str) t) := propext ⟨fun h => h.2, fun h => ⟨rfl, h⟩⟩
theorem t_t {x : List D} : isiQ T st (.tup x) ts F = F (ts.any fun t => isTy T (some .tuple) t) := propext ⟨fun h => h.2, fun h => ⟨rfl, h⟩⟩
def tyO (o : Option O) : Option Ty := match o with
  | some (.lst _) => some .list
  | some (.fro _) => some .list
  | some (.dic _) => some .dict
  | some (.ins c _) => some (.own c)
  | none => none
theorem t_r {h : Nat} : isiQ T st (.ref h) ts F = optQ (tyO st[h]?) (lz (fun y => F (ts.any fun t => isTy T (some y) t)) .mk) := by
  unfold isiQ hasTy tyOf tyO
  dsimp only
  cases st[h]? with
  | none => exact propext ⟨fun h => Bool.noConfusion h.1, fun h => h.elim⟩
  | some o => cases o <;> exact propext ⟨fun h => h.2, fun h => ⟨rfl, h⟩⟩
theorem tyO_1 {x} : tyO (some (.lst x)) = some .list := rfl
theorem tyO_2 {x} : tyO (some (.fro x)) = some .list := rfl
theorem tyO_3 {x} : tyO (some (.dic x)) = some .dict := rfl
theorem tyO_4 {c x} : tyO (some (.ins c x)) = some (.own c) := rfl
theorem y_n {t} : isTy T none t = false := rfl
theorem y_b {t} : isTy T (some .bool) t = (decide (t = .bool) || decide (t = .int)) := rfl
theorem y_i {t} : isTy T (some .int) t = decide (Ty.int = t) := by cases t <;> rfl
theorem y_s {t} : isTy T (some .str) t = decide (Ty.str = t) := by cases t <;> rfl
theorem y_t {t} : isTy T (some .tuple) t = decide (Ty.tuple = t) := by cases t <;> rfl
theorem y_l {t} : isTy T (some .list) t = decide (Ty.list = t) := by cases t <;> rfl
theorem y_d {t} : isTy T (some .dict) t = decide (Ty.dict = t) := by cases t <;> rfl
theorem y_o {c d} : isTy T (some (.own c)) (.own d) = T.sub c d := rfl
theorem y_o1 {c} : isTy T (some (.own c)) .int = false := rfl
theorem y_o2 {c} : isTy T (some (.own c)) .str = false := rfl
theorem y_o3 {c} : isTy T (some (.own c)) .bool = false := rfl
theorem y_o4 {c} : isTy T (some (.own c)) .tuple = false := rfl
theorem y_o5 {c} : isTy T (some (.own c)) .list = false := rfl
theorem y_o6 {c} : isTy T (some (.own c)) .dict = false := rfl
end
end
section
variable {R : J → Prop}
theorem w_t {ds : List D} : walkQ st (.tup ds) R = R (.seq ds) := rfl
theorem w_s {z : List Nat} : walkQ st (.str z) R = R (.seq (z.map fun c => .str [c])) := rfl
theorem w_r {h : Nat} : walkQ st (.ref h) R = sqQ st[h]? (lz (fun _ => R (.lst h)) .mk) := by
  unfold walkQ
  dsimp only
  cases st[h]? with
  | none => rfl
  | some o => cases o <;> rfl
theorem w_rev {h : Nat} : revQ st (.ref h) R = sqQ st[h]? (lz (fun ds => R (.rev h ds.length)) .mk) := by
  unfold revQ
  dsimp only
  cases st[h]? with
  | none => rfl
  | some o => cases o <;> rfl
theorem w_e {h : Nat} : enmQ st (.ref h) R = sqQ st[h]? (lz (fun _ => R (.enm h)) .mk) := by
  unfold enmQ
  dsimp only
  cases st[h]? with
  | none => rfl
  | some o => cases o <;> rfl
theorem w_zs {a : List Nat} {b : List D} : zipQ st (.str a) (.tup b) R = R (.seq (List.zipWith (fun u v => .tup [u, v]) (a.map fun c => .str [c]) b)) := rfl
theorem w_zt {a b : List D} : zipQ st (.tup a) (.tup b) R = R (.seq (List.zipWith (fun u v => .tup [u, v]) a b)) := rfl
end
end
section
variable {T : Tab} {C : Calls}
theorem for_seq {v : Nat} {body : Env → Store → K → Prop} {k : K} (P : List D → Env → Store → Prop)
    (turn : ∀ (d : D) (r : List D) (env : Env) (st : Store) (N : Env → Store → Prop), P (d :: r) env st → (∀ e s, P r e s → N e s) → body (env.set v (some d)) st (kl N k .mk))
    (done : ∀ env st, P [] env st → k.nx env st) (ds : List D) : ∀ (r : List D) (i : Nat) (env : Env) (st : Store), ds.drop i = r → P r env st → forN (.seq ds) (.nm v) body k (r.length + 1) i env st
  | [], i, env, st, e, p => by
    unfold forN
    have : (J.seq ds).at i st = some none := by
      show some ds[i]? = _
      rw [List.getElem?_eq_none (by have := congrArg List.length e; simp at this; omega)]
    rw [this]
    exact done env st p
  | d :: r, i, env, st, e, p => by
    unfold forN
    have : (J.seq ds).at i st = some (some d) := by
      show some ds[i]? = _
      have h : (ds.drop i)[0]? = some d := by rw [e]; rfl
      rw [List.getElem?_drop] at h
      rw [← h]; rfl
    rw [this]
    have e2 : ds.drop (i + 1) = r := by rw [← List.drop_drop, e]; rfl
    exact turn d r env st (forN (.seq ds) (.nm v) body k (r.length + 1) (i + 1)) p fun e' s' p' => for_seq P turn done ds r (i + 1) e' s' e2 p'
theorem for_s {v : Nat} {body : Env → Store → K → Prop} {k : K} {ds : List D} {env : Env} {st : Store} (P : List D → Env → Store → Prop) (start : P ds env st)
    (turn : ∀ (d : D) (r : List D) (env : Env) (st : Store) (N : Env → Store → Prop), P (d :: r) env st → (∀ e s, P r e s → N e s) → body (env.set v (some d)) st (kl N k .mk))
    (done : ∀ env st, P [] env st → k.nx env st) : ∃ n, forN (.seq ds) (.nm v) body k n 0 env st :=
  ⟨_, for_seq P turn done ds ds 0 env st rfl start⟩
theorem for_i {j : J} {tg : Tg} {body : Env → Store → K → Prop} {k : K} {env : Env} {st : Store} (n : Nat) (Iv : Nat → Env → Store → Prop) (start : Iv 0 env st)
    (turn : ∀ (i : Nat) (env : Env) (st : Store) (N : Env → Store → Prop), i < n → Iv i env st → (∀ e s, Iv (i + 1) e s → N e s) → optQ (j.at i st) (lz (fun o => optQ o (lz (fun d => bindQ tg d env (lz (fun env' => body env' st (kl N k .mk)) .mk)) .mk)) .mk))
    (done : ∀ (env : Env) (st : Store), Iv n env st → j.at n st = some none ∧ k.nx env st) : ∃ m, forN j tg body k m 0 env st := by
  refine ⟨n + 1, for_j n Iv (fun i env st N hi iv hN => ?_) done n 0 env st (by omega) start⟩
  have h := turn i env st N hi iv hN
  cases e : j.at i st with
  | none => rw [e] at h; exact h.elim
  | some o =>
    rw [e] at h
    have h : optQ o _ := h
    cases o with
    | none => exact h.elim
    | some d =>
      have h : bindQ tg d env _ := h
      unfold bindQ at h
      cases e2 : bindT tg d env with
      | none => rw [e2] at h; exact h.elim
      | some env' =>
        rw [e2] at h
        exact ⟨d, env', rfl, e2, h⟩
theorem at_s {i : Nat} {st : Store} {ds : List D} : (J.seq ds).at i st = some ds[i]? := rfl
theorem cmp_seq {v : Nat} {tests : Env → Store → (Bool → Store → Prop) → Prop} {elt : Env → Store → QE → Prop} {h : Nat} {Q : QE} {env : Env} (P : List D → List D → Store → Prop)
    (turn : ∀ (d : D) (r acc : List D) (st : Store) (N : List D → Store → Prop), P (d :: r) acc st → (∀ acc' s, P r acc' s → N acc' s) →
      tests (env.set v (some d)) st (lz (fun b s1 => ifL b (lz (fun _ => elt (env.set v (some d)) s1 (lz (fun y s2 => lstQ s2[h]? (lz (fun acc => acc.length < line ∧ N (acc ++ [y]) (s2.set h (.lst (acc ++ [y])))) .mk)) .mk)) .mk) (lz (fun _ => N acc s1) .mk)) .mk))
    (done : ∀ acc st, P [] acc st → Q (.ref h) st) (ds : List D) : ∀ (r acc : List D) (i : Nat) (st : Store), ds.drop i = r → P r acc st → cmpN (.seq ds) (.nm v) tests elt h Q (r.length + 1) i env st
  | [], acc, i, st, e, p => by
    unfold cmpN
    have : (J.seq ds).at i st = some none := by
      show some ds[i]? = _
      rw [List.getElem?_eq_none (by have := congrArg List.length e; simp at this; omega)]
    rw [this]
    exact done acc st p
  | d :: r, acc, i, st, e, p => by
    unfold cmpN
    have : (J.seq ds).at i st = some (some d) := by
      show some ds[i]? = _
      have h : (ds.drop i)[0]? = some d := by rw [e]; rfl
      rw [List.getElem?_drop] at h
      rw [← h]; rfl
    rw [this]
    have e2 : ds.drop (i + 1) = r := by rw [← List.drop_drop, e]; rfl
    have q := turn d r acc st (fun acc' s => cmpN (.seq ds) (.nm v) tests elt h Q (r.length + 1) (i + 1) env s) p fun acc' s' p' => cmp_seq P turn done ds r acc' (i + 1) s' e2 p'
    have c : ∀ s2 : Store, ∀ y : D, (match s2[h]? with
          | some (.lst acc) => acc.length < line ∧ cmpN (.seq ds) (.nm v) tests elt h Q (r.length + 1) (i + 1) env (s2.set h (.lst (acc ++ [y])))
          | _ => False) = lstQ s2[h]? (fun acc => acc.length < line ∧ cmpN (.seq ds) (.nm v) tests elt h Q (r.length + 1) (i + 1) env (s2.set h (.lst (acc ++ [y])))) := fun s2 y => by
      cases s2[h]? with
      | none => rfl
      | some o => cases o <;> rfl
    show tests (env.set v (some d)) st fun b st1 => if b = true then elt (env.set v (some d)) st1 fun y st2 => (match st2[h]? with
          | some (.lst acc) => acc.length < line ∧ cmpN (.seq ds) (.nm v) tests elt h Q (r.length + 1) (i + 1) env (st2.set h (.lst (acc ++ [y])))
          | _ => False) else cmpN (.seq ds) (.nm v) tests elt h Q (r.length + 1) (i + 1) env st1
    simp only [c]
    exact q
theorem cmp_s {v : Nat} {tests : Env → Store → (Bool → Store → Prop) → Prop} {elt : Env → Store → QE → Prop} {h : Nat} {Q : QE} {env : Env} {st : Store} {ds : List D} (P : List D → List D → Store → Prop) (start : P ds [] st)
    (turn : ∀ (d : D) (r acc : List D) (st : Store) (N : List D → Store → Prop), P (d :: r) acc st → (∀ acc' s, P r acc' s → N acc' s) →
      tests (env.set v (some d)) st (lz (fun b s1 => ifL b (lz (fun _ => elt (env.set v (some d)) s1 (lz (fun y s2 => lstQ s2[h]? (lz (fun acc => acc.length < line ∧ N (acc ++ [y]) (s2.set h (.lst (acc ++ [y])))) .mk)) .mk)) .mk) (lz (fun _ => N acc s1) .mk)) .mk))
    (done : ∀ acc st, P [] acc st → Q (.ref h) st) : ∃ n, cmpN (.seq ds) (.nm v) tests elt h Q n 0 env st :=
  ⟨_, cmp_seq P turn done ds ds [] 0 st rfl start⟩
theorem for_e {a b h : Nat} {ds : List D} {body : Env → Store → K → Prop} {k : K} {env : Env} {st : Store} (P : Nat → List D → Env → Store → Prop) (start : P 0 ds env st)
    (stay : ∀ i r env st, P i r env st → sqQ st[h]? fun x => x = ds)
    (turn : ∀ (i : Nat) (d : D) (r : List D) (env : Env) (st : Store) (N : Env → Store → Prop), ds.drop i = d :: r → P i (d :: r) env st → (∀ e s, P (i + 1) r e s → N e s) → body ((env.set a (some (.int i))).set b (some d)) st (kl N k .mk))
    (done : ∀ env st, P ds.length [] env st → k.nx env st) : ∃ n, forN (.enm h) (.tp [a, b]) body k n 0 env st := by
  have at_ : ∀ (i : Nat) (s : Store), (sqQ s[h]? fun x => x = ds) → (J.enm h).at i s = some (ds[i]?.map fun d => .tup [.int i, d]) := fun i s e => by
    unfold J.at
    dsimp only
    cases q : s[h]? with
    | none => rw [q] at e; exact e.elim
    | some o =>
      rw [q] at e
      cases o with
      | lst x => rw [show x = ds from e]
      | fro x => rw [show x = ds from e]
      | _ => exact e.elim
  have main : ∀ (r : List D) (i : Nat) (env : Env) (st : Store), ds.drop i = r → i ≤ ds.length → P i r env st → forN (.enm h) (.tp [a, b]) body k (r.length + 1) i env st := fun r => by
    induction r with
    | nil =>
      intro i env st e le p
      unfold forN
      have l : ds.length ≤ i := by have := congrArg List.length e; simp at this; omega
      rw [at_ i st (stay _ _ _ _ p), List.getElem?_eq_none l]
      rw [show i = ds.length by omega] at p
      exact done env st p
    | cons d r ih =>
      intro i env st e le p
      unfold forN
      have hd : ds[i]? = some d := by
        have h : (ds.drop i)[0]? = some d := by rw [e]; rfl
        rw [List.getElem?_drop] at h
        rw [← h]; rfl
      rw [at_ i st (stay _ _ _ _ p), hd]
      have e2 : ds.drop (i + 1) = r := by rw [← List.drop_drop, e]; rfl
      exact turn i d r env st _ e p fun e' s' p' => ih (i + 1) e' s' e2 (by have := (List.getElem?_eq_some_iff.mp hd).1; omega) p'
  exact ⟨_, main ds 0 env st rfl (Nat.zero_le _) start⟩
theorem for_l {v h : Nat} {ds : List D} {body : Env → Store → K → Prop} {k : K} {env : Env} {st : Store} (P : List D → Env → Store → Prop) (start : P ds env st)
    (stay : ∀ r env st, P r env st → sqQ st[h]? fun x => x = ds)
    (turn : ∀ (d : D) (r : List D) (env : Env) (st : Store) (N : Env → Store → Prop), P (d :: r) env st → (∀ e s, P r e s → N e s) → body (env.set v (some d)) st (kl N k .mk))
    (done : ∀ env st, P [] env st → k.nx env st) : ∃ n, forN (.lst h) (.nm v) body k n 0 env st := by
  have at_ : ∀ (i : Nat) (s : Store), (sqQ s[h]? fun x => x = ds) → (J.lst h).at i s = some ds[i]? := fun i s e => by
    unfold J.at
    dsimp only
    cases q : s[h]? with
    | none => rw [q] at e; exact e.elim
    | some o =>
      rw [q] at e
      cases o with
      | lst x => rw [show x = ds from e]
      | fro x => rw [show x = ds from e]
      | _ => exact e.elim
  have main : ∀ (r : List D) (i : Nat) (env : Env) (st : Store), ds.drop i = r → P r env st → forN (.lst h) (.nm v) body k (r.length + 1) i env st := fun r => by
    induction r with
    | nil =>
      intro i env st e p
      unfold forN
      have l : ds.length ≤ i := by have := congrArg List.length e; simp at this; omega
      rw [at_ i st (stay _ _ _ p), List.getElem?_eq_none l]
      exact done env st p
    | cons d r ih =>
      intro i env st e p
      unfold forN
      have hd : ds[i]? = some d := by
        have h : (ds.drop i)[0]? = some d := by rw [e]; rfl
        rw [List.getElem?_drop] at h
        rw [← h]; rfl
      rw [at_ i st (stay _ _ _ p), hd]
      have e2 : ds.drop (i + 1) = r := by rw [← List.drop_drop, e]; rfl
      exact turn d r env st _ p fun e' s' p' => ih (i + 1) e' s' e2 p'
  exact ⟨_, main ds 0 env st rfl start⟩
theorem cmp_l {v g : Nat} {ds : List D} {tests : Env → Store → (Bool → Store → Prop) → Prop} {elt : Env → Store → QE → Prop} {h : Nat} {Q : QE} {env : Env} {st : Store} (P : List D → List D → Store → Prop) (start : P ds [] st)
    (stay : ∀ r acc st, P r acc st → sqQ st[g]? fun x => x = ds)
    (turn : ∀ (d : D) (r acc : List D) (st : Store) (N : List D → Store → Prop), P (d :: r) acc st → (∀ acc' s, P r acc' s → N acc' s) →
      tests (env.set v (some d)) st (lz (fun b s1 => ifL b (lz (fun _ => elt (env.set v (some d)) s1 (lz (fun y s2 => lstQ s2[h]? (lz (fun acc => acc.length < line ∧ N (acc ++ [y]) (s2.set h (.lst (acc ++ [y])))) .mk)) .mk)) .mk) (lz (fun _ => N acc s1) .mk)) .mk))
    (done : ∀ acc st, P [] acc st → Q (.ref h) st) : ∃ n, cmpN (.lst g) (.nm v) tests elt h Q n 0 env st := by
  have at_ : ∀ (i : Nat) (s : Store), (sqQ s[g]? fun x => x = ds) → (J.lst g).at i s = some ds[i]? := fun i s e => by
    unfold J.at
    dsimp only
    cases q : s[g]? with
    | none => rw [q] at e; exact e.elim
    | some o =>
      rw [q] at e
      cases o with
      | lst x => rw [show x = ds from e]
      | fro x => rw [show x = ds from e]
      | _ => exact e.elim
  have main : ∀ (r acc : List D) (i : Nat) (st : Store), ds.drop i = r → P r acc st → cmpN (.lst g) (.nm v) tests elt h Q (r.length + 1) i env st := fun r => by
    induction r with
    | nil =>
      intro acc i st e p
      unfold cmpN
      have l : ds.length ≤ i := by have := congrArg List.length e; simp at this; omega
      rw [at_ i st (stay _ _ _ p), List.getElem?_eq_none l]
      exact done acc st p
    | cons d r ih =>
      intro acc i st e p
      unfold cmpN
      have hd : ds[i]? = some d := by
        have h : (ds.drop i)[0]? = some d := by rw [e]; rfl
        rw [List.getElem?_drop] at h
        rw [← h]; rfl
      rw [at_ i st (stay _ _ _ p), hd]
      have e2 : ds.drop (i + 1) = r := by rw [← List.drop_drop, e]; rfl
      have q := turn d r acc st (fun acc' s => cmpN (.lst g) (.nm v) tests elt h Q (r.length + 1) (i + 1) env s) p fun acc' s' p' => ih acc' (i + 1) s' e2 p'
      have c : ∀ s2 : Store, ∀ y : D, (match s2[h]? with
            | some (.lst acc) => acc.length < line ∧ cmpN (.lst g) (.nm v) tests elt h Q (r.length + 1) (i + 1) env (s2.set h (.lst (acc ++ [y])))
            | _ => False) = lstQ s2[h]? (fun acc => acc.length < line ∧ cmpN (.lst g) (.nm v) tests elt h Q (r.length + 1) (i + 1) env (s2.set h (.lst (acc ++ [y])))) := fun s2 y => by
        cases s2[h]? with
        | none => rfl
        | some o => cases o <;> rfl
      show tests (env.set v (some d)) st fun b st1 => if b = true then elt (env.set v (some d)) st1 fun y st2 => (match st2[h]? with
            | some (.lst acc) => acc.length < line ∧ cmpN (.lst g) (.nm v) tests elt h Q (r.length + 1) (i + 1) env (st2.set h (.lst (acc ++ [y])))
            | _ => False) else cmpN (.lst g) (.nm v) tests elt h Q (r.length + 1) (i + 1) env st1
      simp only [c]
      exact q
  exact ⟨_, main ds [] 0 st rfl start⟩
end
end Y
set_option linter.all false
set_option maxHeartbeats 4000000
set_option maxRecDepth 100000
namespace Y
open PySem
mutual
def clean : Nat → D → Bool
  | _, .non => true
  | _, .int _ => true
  | _, .str x => x.all fun c => decide (c < 1114112)
  | 0, .tup _ => false
  | n + 1, .tup ds => cleans n ds
  | _, _ => false
def cleans : Nat → List D → Bool
  | _, [] => true
  | n, d :: ds => clean n d && cleans n ds
end
mutual
def pdO : D → PyData
  | .non => .none
  | .int i => .int i
  | .str x => .str ⟨x.toArray⟩
  | .tup ds => .tuple (pdOs ds)
  | _ => .none
def pdOs : List D → List PyData
  | [] => []
  | d :: ds => pdO d :: pdOs ds
end
mutual
theorem toP_clean {st : Store} : ∀ (n m : Nat) (d : D), n ≤ m → clean n d = true → toP m st d = some (pdO d)
  | n, m, .non, _, _ => by cases m <;> rfl
  | n, m, .int i, _, _ => by cases m <;> rfl
  | n, m, .str x, _, h => by
    have h : (x.all fun c => decide (c < 1114112)) = true := by cases n <;> exact h
    cases m <;> (unfold toP; rw [if_pos h]; rfl)
  | 0, _, .tup ds, _, h => by cases h
  | n + 1, 0, .tup ds, l, h => by omega
  | n + 1, m + 1, .tup ds, l, h => by
    have h : cleans n ds = true := h
    show (ds.mapM (toP m st)).map PyData.tuple = _
    rw [toPs_clean n m ds (by omega) h]
    rfl
  | n, _, .bl b, _, h => by cases n <;> cases h
  | n, _, .ref b, _, h => by cases n <;> cases h
  | n, _, .kon b, _, h => by cases n <;> cases h
theorem toPs_clean {st : Store} : ∀ (n m : Nat) (ds : List D), n ≤ m → cleans n ds = true → ds.mapM (toP m st) = some (pdOs ds)
  | n, m, [], _, _ => by simp [pdOs]
  | n, m, d :: ds, l, h => by
    have h : (clean n d && cleans n ds) = true := h
    rw [Bool.and_eq_true] at h
    rw [List.mapM_cons, toP_clean n m d l h.1, toPs_clean n m ds l h.2]
    rfl
end
mutual
theorem eqv_clean : ∀ (n m : Nat) (x y : D), clean n x = true → clean m y = true → PyData.eqv (pdO x) (pdO y) = decide (x = y)
  | n, m, .bl b, _, h, _ => by cases n <;> cases h
  | n, m, .ref b, _, h, _ => by cases n <;> cases h
  | n, m, .kon b, _, h, _ => by cases n <;> cases h
  | n, m, .non, y, _, hy => by cases y <;> first | (simp [pdO, PyData.eqv]; done) | (cases m <;> cases hy)
  | n, m, .int i, y, _, hy => by
    cases y with
    | int j => by_cases e : i = j <;> simp [pdO, PyData.eqv, e]
    | _ => first | (simp [pdO, PyData.eqv]; done) | (cases m <;> cases hy)
  | n, m, .str x, y, _, hy => by
    cases y with
    | str z => by_cases e : x = z <;> simp [pdO, PyData.eqv, e]
    | _ => first | (simp [pdO, PyData.eqv]; done) | (cases m <;> cases hy)
  | 0, m, .tup ds, _, h, _ => by cases h
  | n + 1, m, .tup ds, y, h, hy => by
    cases y with
    | tup es =>
      cases m with
      | zero => cases hy
      | succ m =>
        have := eqvs_clean n m ds es h hy
        simp only [pdO, PyData.eqv, this, D.tup.injEq]
    | _ => first | (simp [pdO, PyData.eqv]; done) | (cases m <;> cases hy)
theorem eqvs_clean : ∀ (n m : Nat) (xs ys : List D), cleans n xs = true → cleans m ys = true → PyData.eqvAll (pdOs xs) (pdOs ys) = decide (xs = ys)
  | n, m, [], [], _, _ => by simp [pdOs, PyData.eqvAll]
  | n, m, [], y :: ys, _, _ => by simp [pdOs, PyData.eqvAll]
  | n, m, x :: xs, [], _, _ => by simp [pdOs, PyData.eqvAll]
  | n, m, x :: xs, y :: ys, h, hy => by
    have h : (clean n x && cleans n xs) = true := h
    have hy : (clean m y && cleans m ys) = true := hy
    rw [Bool.and_eq_true] at h hy
    have a := eqv_clean n m x y h.1 hy.1
    have b := eqvs_clean n m xs ys h.2 hy.2
    simp only [pdOs, PyData.eqvAll, a, b]
    by_cases e : x = y <;> by_cases e2 : xs = ys <;> simp [e, e2]
end
theorem eqQ_clean {st : Store} {x y : D} {n m : Nat} {Q : Bool → Prop} (hx : clean n x = true) (hy : clean m y = true) (ln : n ≤ 60) (lm : m ≤ 60) (h : Q (decide (x = y))) : eqQ st x y Q := by
  have ex : ∃ d e, toP 60 st x = some d ∧ toP 60 st y = some e ∧ Q (PyData.eqv d e) := ⟨_, _, toP_clean n 60 x ln hx, toP_clean m 60 y lm hy, by rw [eqv_clean n m x y hx hy]; exact h⟩
  have i1 : ∀ a b : Int, decide (D.int a = D.int b) = decide (a = b) := fun a b => by simp
  have i2 : ∀ a b : List Nat, decide (D.str a = D.str b) = decide (a = b) := fun a b => by simp
  cases x <;> cases y <;> first
    | exact ex
    | (rw [i1] at h; exact h)
    | (rw [i2] at h; exact h)
    | (simp only [reduceCtorEq, decide_false] at h; exact h)
    | (simp only [decide_true] at h; exact h)
    | (cases n <;> cases hx)
theorem eqQ_lists {st : Store} {a b : Nat} {xs ys : List D} {n m : Nat} {Q : Bool → Prop} (ea : st[a]? = some (.lst xs)) (eb : st[b]? = some (.lst ys)) (hx : cleans n xs = true) (hy : cleans m ys = true) (ln : n ≤ 59) (lm : m ≤ 59) (h : Q (decide (xs = ys))) : eqQ st (.ref a) (.ref b) Q := by
  refine ⟨.list (pdOs xs), .list (pdOs ys), ?_, ?_, ?_⟩
  · unfold toP
    rw [ea]
    dsimp only
    rw [toPs_clean n 59 xs ln hx]
    rfl
  · unfold toP
    rw [eb]
    dsimp only
    rw [toPs_clean m 59 ys lm hy]
    rfl
  · simp only [PyData.eqv, eqvs_clean n m xs ys hx hy]
    exact h
end Y
set_option linter.all false
set_option maxHeartbeats 4000000
set_option maxRecDepth 100000
namespace Y
open PySem
structure Keep (a b : Store) : Prop where
  len : a.length ≤ b.length
  same : ∀ h, h < a.length → b[h]? = a[h]?
theorem Keep.refl (a : Store) : Keep a a := ⟨Nat.le_refl _, fun _ _ => rfl⟩
theorem Keep.trans {a b c : Store} (x : Keep a b) (y : Keep b c) : Keep a c := ⟨Nat.le_trans x.len y.len, fun h l => (y.same h (Nat.lt_of_lt_of_le l x.len)).trans (x.same h l)⟩
theorem Keep.app {a b : Store} (x : Keep a b) (c : Store) : Keep a (b ++ c) := ⟨by rw [List.length_append]; exact Nat.le_trans x.len (Nat.le_add_right _ _), fun h l => by rw [List.getElem?_append_left (Nat.lt_of_lt_of_le l x.len)]; exact x.same h l⟩
theorem Keep.new (a c : Store) : Keep a (a ++ c) := (Keep.refl a).app c
theorem Keep.set {a b : Store} (x : Keep a b) {h : Nat} (o : O) (l : a.length ≤ h) : Keep a (b.set h o) := ⟨by rw [List.length_set]; exact x.len, fun g m => by rw [List.getElem?_set_ne (by omega)]; exact x.same g m⟩
theorem Keep.get {a b : Store} (x : Keep a b) {h : Nat} {o : O} (e : a[h]? = some o) : b[h]? = some o := (x.same h (List.getElem?_eq_some_iff.mp e).1).trans e
theorem lt_of_get {a : Store} {h : Nat} {o : O} (e : a[h]? = some o) : h < a.length := (List.getElem?_eq_some_iff.mp e).1
theorem get_app {a : Store} {h : Nat} {o : O} (c : Store) (e : a[h]? = some o) : (a ++ c)[h]? = some o := (Keep.new a c).get e
theorem get_snoc (a : Store) (o : O) : (a ++ [o])[a.length]? = some o := List.getElem?_concat_length
theorem get_snoc2 (a c : Store) (o : O) : (a ++ [o] ++ c)[a.length]? = some o := get_app c (get_snoc a o)
theorem get_set {a : Store} {h g : Nat} {o o' : O} (e : a[h]? = some o) (ne : g ≠ h) : (a.set g o')[h]? = some o := by rw [List.getElem?_set_ne ne]; exact e
theorem set_get {a : Store} {h : Nat} {o o' : O} (e : a[h]? = some o) : (a.set h o')[h]? = some o' := List.getElem?_set_self (lt_of_get e)
def rg (i m : Nat) : List D := (List.range' i m).map fun (j : Nat) => D.int (j : Int)
theorem rngD_rg (n : Nat) : rngD 0 n = rg 0 n := by
  unfold rngD rg
  rw [List.range_eq_range']
  refine List.map_congr_left fun j _ => ?_
  rw [Int.zero_add]
theorem rg_succ (i m : Nat) : rg i (m + 1) = .int i :: rg (i + 1) m := by
  unfold rg
  rw [List.range'_succ]
  rfl
theorem rg_zero (i : Nat) : rg i 0 = [] := rfl
theorem rg_len (i m : Nat) : (rg i m).length = m := by simp [rg]
theorem getIx_n {xs : List D} {i : Nat} {F : D → Prop} (h : i < xs.length) : getIx xs (i : Int) F = F xs[i] := getIx_of (j := i) (by rw [ix_pos (by omega) (by omega)]; rfl) (List.getElem?_eq_getElem h)
theorem sum_le {ys : List (List Nat)} {m : Nat} (h : ∀ y ∈ ys, y.length ≤ m) : (ys.map List.length).sum ≤ m * ys.length := by
  induction ys with
  | nil => simp
  | cons y ys ih =>
    have h1 := h y List.mem_cons_self
    have h2 := ih fun z hz => h z (List.mem_cons_of_mem _ hz)
    rw [List.map_cons, List.sum_cons, List.length_cons, Nat.mul_succ]
    omega
theorem seq_l {st : Store} {h : Nat} {xs : List D} (e : st[h]? = some (.lst xs)) : seqOf st (.ref h) = some xs := by
  unfold seqOf
  dsimp only
  rw [e]
theorem join_snoc {α : Type} {p : α} {a b c : List α} (e : a = b ++ p :: c) : a = (b ++ [p]) ++ c := by rw [e]; simp
theorem le_line {a : Nat} (h : a ≤ 1000000) : a ≤ line := Nat.le_trans h (by decide)
theorem lt_line {a : Nat} (h : a ≤ 1000000) : a < line := Nat.lt_of_le_of_lt h (by decide)
structure Kb (v : Nat) (a b : Store) : Prop where
  len : a.length ≤ b.length
  same : ∀ h, h ≠ v → h < a.length → b[h]? = a[h]?
theorem Kb.of {v : Nat} {a b : Store} (x : Keep a b) : Kb v a b := ⟨x.len, fun h _ l => x.same h l⟩
theorem Kb.refl (v : Nat) (a : Store) : Kb v a a := .of (.refl a)
theorem Kb.trans {v : Nat} {a b c : Store} (x : Kb v a b) (y : Kb v b c) : Kb v a c := ⟨Nat.le_trans x.len y.len, fun h n l => (y.same h n (Nat.lt_of_lt_of_le l x.len)).trans (x.same h n l)⟩
theorem Kb.keep {v : Nat} {a b c : Store} (x : Kb v a b) (y : Keep b c) : Kb v a c := x.trans (.of y)
theorem Kb.set {v : Nat} {a b : Store} (x : Kb v a b) (o : O) : Kb v a (b.set v o) := ⟨by rw [List.length_set]; exact x.len, fun h n l => by rw [List.getElem?_set_ne (Ne.symm n)]; exact x.same h n l⟩
theorem Kb.get {v : Nat} {a b : Store} (x : Kb v a b) {h : Nat} {o : O} (e : a[h]? = some o) (n : h ≠ v) : b[h]? = some o := (x.same h n (lt_of_get e)).trans e
theorem Kb.cut {v : Nat} {a b c : Store} (x : Kb v (a ++ c) b) (l : a.length ≤ v) : Keep a b := ⟨by have := x.len; rw [List.length_append] at this; omega, fun h m => by rw [x.same h (by omega) (by rw [List.length_append]; omega), List.getElem?_append_left m]⟩
theorem dcm_l {v g : Nat} {ds : List D} {tests : Env → Store → (Bool → Store → Prop) → Prop} {kx vx : Env → Store → QE → Prop} {h : Nat} {Q : QE} {env : Env} {st : Store} (P : List D → List (D × D) → Store → Prop) (start : P ds [] st)
    (stay : ∀ r acc st, P r acc st → sqQ st[g]? fun x => x = ds)
    (turn : ∀ (d : D) (r : List D) (acc : List (D × D)) (st : Store) (N : List (D × D) → Store → Prop), P (d :: r) acc st → (∀ acc' s, P r acc' s → N acc' s) →
      tests (env.set v (some d)) st (lz (fun b s1 => ifL b (lz (fun _ => kx (env.set v (some d)) s1 (lz (fun x s2 => vx (env.set v (some d)) s2 (lz (fun y s3 => dicQ s3[h]? (lz (fun kvs => keyD x = true ∧ kvs.length < line ∧ N (putK kvs x y) (s3.set h (.dic (putK kvs x y)))) .mk)) .mk)) .mk)) .mk) (lz (fun _ => N acc s1) .mk)) .mk))
    (done : ∀ acc st, P [] acc st → Q (.ref h) st) : ∃ n, dcmN (.lst g) (.nm v) tests kx vx h Q n 0 env st := by
  have at_ : ∀ (i : Nat) (s : Store), (sqQ s[g]? fun x => x = ds) → (J.lst g).at i s = some ds[i]? := fun i s e => by
    unfold J.at
    dsimp only
    cases q : s[g]? with
    | none => rw [q] at e; exact e.elim
    | some o =>
      rw [q] at e
      cases o with
      | lst x => rw [show x = ds from e]
      | fro x => rw [show x = ds from e]
      | _ => exact e.elim
  have main : ∀ (r : List D) (acc : List (D × D)) (i : Nat) (st : Store), ds.drop i = r → P r acc st → dcmN (.lst g) (.nm v) tests kx vx h Q (r.length + 1) i env st := fun r => by
    induction r with
    | nil =>
      intro acc i st e p
      unfold dcmN
      have l : ds.length ≤ i := by have := congrArg List.length e; simp at this; omega
      rw [at_ i st (stay _ _ _ p), List.getElem?_eq_none l]
      exact done acc st p
    | cons d r ih =>
      intro acc i st e p
      unfold dcmN
      have hd : ds[i]? = some d := by
        have h : (ds.drop i)[0]? = some d := by rw [e]; rfl
        rw [List.getElem?_drop] at h
        rw [← h]; rfl
      rw [at_ i st (stay _ _ _ p), hd]
      have e2 : ds.drop (i + 1) = r := by rw [← List.drop_drop, e]; rfl
      have q := turn d r acc st (fun acc' s => dcmN (.lst g) (.nm v) tests kx vx h Q (r.length + 1) (i + 1) env s) p fun acc' s' p' => ih acc' (i + 1) s' e2 p'
      have c : ∀ (s3 : Store) (x y : D), (match s3[h]? with
            | some (.dic kvs) => keyD x = true ∧ kvs.length < line ∧ dcmN (.lst g) (.nm v) tests kx vx h Q (r.length + 1) (i + 1) env (s3.set h (.dic (putK kvs x y)))
            | _ => False) = dicQ s3[h]? (fun kvs => keyD x = true ∧ kvs.length < line ∧ dcmN (.lst g) (.nm v) tests kx vx h Q (r.length + 1) (i + 1) env (s3.set h (.dic (putK kvs x y)))) := fun s3 x y => by
        cases s3[h]? with
        | none => rfl
        | some o => cases o <;> rfl
      show tests (env.set v (some d)) st fun b st1 => if b = true then kx (env.set v (some d)) st1 fun x st2 => vx (env.set v (some d)) st2 fun y st3 => (match st3[h]? with
            | some (.dic kvs) => keyD x = true ∧ kvs.length < line ∧ dcmN (.lst g) (.nm v) tests kx vx h Q (r.length + 1) (i + 1) env (st3.set h (.dic (putK kvs x y)))
            | _ => False) else dcmN (.lst g) (.nm v) tests kx vx h Q (r.length + 1) (i + 1) env st1
      simp only [c]
      exact q
  exact ⟨_, main ds [] 0 st rfl start⟩
theorem putK_new {kvs : List (D × D)} {k v : D} (h : ∀ p ∈ kvs, p.1 ≠ k) : putK kvs k v = kvs ++ [(k, v)] := by
  unfold putK
  have : getK kvs k = none := by
    unfold getK
    rw [List.find?_eq_none.mpr fun p hp => by simp [h p hp]]
    rfl
  rw [this]
  rfl
theorem getK_mem {kvs : List (D × D)} {k v : D} (nd : (kvs.map (·.1)).Nodup) (h : (k, v) ∈ kvs) : getK kvs k = some v := by
  induction kvs with
  | nil => cases h
  | cons p kvs ih =>
    rw [List.map_cons, List.nodup_cons] at nd
    unfold getK
    rw [List.find?_cons]
    by_cases e : p.1 = k
    · rw [decide_eq_true e]
      rcases List.mem_cons.mp h with z | z
      · rw [← z]; rfl
      · exact absurd (List.mem_map.mpr ⟨_, z, e.symm⟩) nd.1
    · rw [decide_eq_false e]
      rcases List.mem_cons.mp h with z | z
      · rw [← z] at e; exact absurd rfl e
      · exact ih nd.2 z
theorem cmp_map {α : Type} {v g : Nat} {f F : α → D} {xs : List α} {tests : Env → Store → (Bool → Store → Prop) → Prop} {elt : Env → Store → QE → Prop} {Q : QE} {env : Env} {st : Store} (eg : st[g]? = some (.lst (xs.map f))) (hl : xs.length ≤ 1000000)
    (ht : ∀ e s P, P true s → tests e s P) (turn : ∀ x ∈ xs, ∀ (s : Store) (Q' : QE), Keep st s → Q' (F x) s → elt (env.set v (some (f x))) s Q') (done : Q (.ref st.length) (st ++ [.lst (xs.map F)])) : ∃ n, cmpN (.lst g) (.nm v) tests elt st.length Q n 0 env (st ++ [.lst []]) := by
  refine cmp_l (ds := xs.map f) (fun r acc s => ∃ dn ys, xs = dn ++ ys ∧ r = ys.map f ∧ acc = dn.map F ∧ s = st ++ [.lst acc]) ⟨[], xs, rfl, rfl, rfl, rfl⟩ (fun r acc s ⟨dn, ys, e1, e2, e3, e4⟩ => by rw [e4, get_app _ eg]; rfl) (fun d r acc s N ⟨dn, ys, e1, e2, e3, e4⟩ hN => ?_) (fun acc s ⟨dn, ys, e1, e2, e3, e4⟩ => ?_)
  · subst e4
    cases ys with
    | nil => cases e2
    | cons y ys =>
      cases e2
      refine ht _ _ _ ?_
      show ifL true _ _
      rw [z_ifT, lz1]
      refine turn y (by rw [e1]; simp) _ _ (.new _ _) ?_
      rw [lz1, get_snoc, lstQ_1, lz1]
      refine ⟨lt_line (by rw [e3, List.length_map]; have := congrArg List.length e1; simp at this; omega), hN _ _ ⟨dn ++ [y], ys, join_snoc e1, rfl, ?_, set_last _ _ _⟩⟩
      rw [e3]
      simp
  · subst e4
    cases ys with
    | cons y ys => cases e2
    | nil =>
      rw [List.append_nil] at e1
      subst e1 e3
      exact done
theorem cmp_mapS {α : Type} {v : Nat} {f F : α → D} {xs : List α} {tests : Env → Store → (Bool → Store → Prop) → Prop} {elt : Env → Store → QE → Prop} {Q : QE} {env : Env} {st : Store} (hl : xs.length ≤ 1000000)
    (ht : ∀ e s P, P true s → tests e s P) (turn : ∀ x ∈ xs, ∀ (s : Store) (Q' : QE), Keep st s → Q' (F x) s → elt (env.set v (some (f x))) s Q') (done : Q (.ref st.length) (st ++ [.lst (xs.map F)])) : ∃ n, cmpN (.seq (xs.map f)) (.nm v) tests elt st.length Q n 0 env (st ++ [.lst []]) := by
  refine cmp_s (fun r acc s => ∃ dn ys, xs = dn ++ ys ∧ r = ys.map f ∧ acc = dn.map F ∧ s = st ++ [.lst acc]) ⟨[], xs, rfl, rfl, rfl, rfl⟩ (fun d r acc s N ⟨dn, ys, e1, e2, e3, e4⟩ hN => ?_) (fun acc s ⟨dn, ys, e1, e2, e3, e4⟩ => ?_)
  · subst e4
    cases ys with
    | nil => cases e2
    | cons y ys =>
      cases e2
      refine ht _ _ _ ?_
      show ifL true _ _
      rw [z_ifT, lz1]
      refine turn y (by rw [e1]; simp) _ _ (.new _ _) ?_
      rw [lz1, get_snoc, lstQ_1, lz1]
      refine ⟨lt_line (by rw [e3, List.length_map]; have := congrArg List.length e1; simp at this; omega), hN _ _ ⟨dn ++ [y], ys, join_snoc e1, rfl, ?_, set_last _ _ _⟩⟩
      rw [e3]
      simp
  · subst e4
    cases ys with
    | cons y ys => cases e2
    | nil =>
      rw [List.append_nil] at e1
      subst e1 e3
      exact done
theorem dcm_map {α : Type} {v g : Nat} {f A B : α → D} {xs : List α} {tests : Env → Store → (Bool → Store → Prop) → Prop} {kx vx : Env → Store → QE → Prop} {Q : QE} {env : Env} {st : Store} (eg : st[g]? = some (.lst (xs.map f))) (hl : xs.length ≤ 1000000) (nd : (xs.map A).Nodup) (hk : ∀ x ∈ xs, keyD (A x) = true)
    (ht : ∀ e s P, P true s → tests e s P) (turn : ∀ x ∈ xs, ∀ (s : Store) (Q' : QE), Keep st s → Q' (A x) s → kx (env.set v (some (f x))) s Q') (turn2 : ∀ x ∈ xs, ∀ (s : Store) (Q' : QE), Keep st s → Q' (B x) s → vx (env.set v (some (f x))) s Q')
    (done : Q (.ref st.length) (st ++ [.dic (xs.map fun x => (A x, B x))])) : ∃ n, dcmN (.lst g) (.nm v) tests kx vx st.length Q n 0 env (st ++ [.dic []]) := by
  refine dcm_l (ds := xs.map f) (fun r acc s => ∃ dn ys, xs = dn ++ ys ∧ r = ys.map f ∧ acc = (dn.map fun x => (A x, B x)) ∧ s = st ++ [.dic acc]) ⟨[], xs, rfl, rfl, rfl, rfl⟩ (fun r acc s ⟨dn, ys, e1, e2, e3, e4⟩ => by rw [e4, get_app _ eg]; rfl) (fun d r acc s N ⟨dn, ys, e1, e2, e3, e4⟩ hN => ?_) (fun acc s ⟨dn, ys, e1, e2, e3, e4⟩ => ?_)
  · subst e4
    cases ys with
    | nil => cases e2
    | cons y ys =>
      cases e2
      have my : y ∈ xs := by rw [e1]; simp
      refine ht _ _ _ ?_
      show ifL true _ _
      rw [z_ifT, lz1]
      refine turn y my _ _ (.new _ _) ?_
      rw [lz1]
      refine turn2 y my _ _ (.new _ _) ?_
      rw [lz1, get_snoc, dicQ_1, lz1]
      have ne : ∀ p ∈ acc, p.1 ≠ A y := fun p hp e => by
        rw [e3] at hp
        obtain ⟨z, hz, rfl⟩ := List.mem_map.mp hp
        rw [e1, List.map_append, List.map_cons] at nd
        exact (List.nodup_append.mp nd).2.2 _ (List.mem_map.mpr ⟨z, hz, rfl⟩) _ List.mem_cons_self e
      rw [putK_new ne]
      refine ⟨hk y my, lt_line (by rw [e3, List.length_map]; have := congrArg List.length e1; simp at this; omega), hN _ _ ⟨dn ++ [y], ys, join_snoc e1, rfl, ?_, set_last _ _ _⟩⟩
      rw [e3]
      simp
  · subst e4
    cases ys with
    | cons y ys => cases e2
    | nil =>
      rw [List.append_nil] at e1
      subst e1 e3
      exact done
end Y
set_option Elab.async false
set_option linter.all false
set_option maxRecDepth 100000
set_option maxHeartbeats 4000000
namespace Y
open PySem
section
variable {T : Tab} {C : Calls}
def SeqAt (j : J) (ds : List D) (st : Store) : Prop := ∀ i : Nat, j.at i st = some ds[i]?
theorem sa_s {ds : List D} {st : Store} : SeqAt (.seq ds) ds st := fun _ => rfl
theorem sa_l {g : Nat} {ds : List D} {st : Store} (e : st[g]? = some (.lst ds)) : SeqAt (.lst g) ds st := fun i => by
  show (match st[g]? with
    | some (.lst ds) => some ds[i]?
    | some (.fro ds) => some ds[i]?
    | _ => none) = _
  rw [e]
theorem sa_f {g : Nat} {ds : List D} {st : Store} (e : st[g]? = some (.fro ds)) : SeqAt (.lst g) ds st := fun i => by
  show (match st[g]? with
    | some (.lst ds) => some ds[i]?
    | some (.fro ds) => some ds[i]?
    | _ => none) = _
  rw [e]
def enmD : Nat → List D → List D
  | _, [] => []
  | i, d :: r => .tup [.int i, d] :: enmD (i + 1) r
theorem enmD_get : ∀ (ds : List D) (i n : Nat), (enmD i ds)[n]? = ds[n]?.map fun d => .tup [.int ((i + n : Nat) : Int), d]
  | [], i, n => by simp [enmD]
  | d :: r, i, 0 => by simp [enmD]
  | d :: r, i, n + 1 => by
    rw [enmD, List.getElem?_cons_succ, List.getElem?_cons_succ, enmD_get r (i + 1) n]
    congr 1
    funext x
    rw [show i + 1 + n = i + (n + 1) by omega]
theorem sa_e {g : Nat} {ds : List D} {st : Store} (e : st[g]? = some (.lst ds)) : SeqAt (.enm g) (enmD 0 ds) st := fun i => by
  show (match st[g]? with
    | some (.lst ds) => some (ds[i]?.map fun d => D.tup [.int i, d])
    | some (.fro ds) => some (ds[i]?.map fun d => D.tup [.int i, d])
    | _ => none) = _
  rw [e, enmD_get, Nat.zero_add]
theorem sa_rev {g : Nat} {ds : List D} {st : Store} (e : st[g]? = some (.lst ds)) : SeqAt (.rev g ds.length) ds.reverse st := fun i => by
  show (match st[g]? with
    | some (.lst xs) => if xs.length = ds.length then (if i < ds.length then some xs[ds.length - 1 - i]? else some none) else none
    | some (.fro xs) => if xs.length = ds.length then (if i < ds.length then some xs[ds.length - 1 - i]? else some none) else none
    | _ => none) = _
  rw [e]
  dsimp only
  rw [if_pos rfl]
  by_cases l : i < ds.length
  · rw [if_pos l, List.getElem?_reverse l]
  · rw [if_neg l, List.getElem?_eq_none (by rw [List.length_reverse]; omega)]
theorem drop_get {ds r : List D} {d : D} {i : Nat} (e : ds.drop i = d :: r) : ds[i]? = some d ∧ ds.drop (i + 1) = r := by
  refine ⟨?_, by rw [← List.drop_drop, e]; rfl⟩
  have h : (ds.drop i)[0]? = some d := by rw [e]; rfl
  rw [List.getElem?_drop] at h
  rw [← h]; rfl
theorem drop_end {ds : List D} {i : Nat} (e : ds.drop i = []) : ds[i]? = none := List.getElem?_eq_none (by have := congrArg List.length e; simp at this; omega)
theorem for_a {j : J} {tg : Tg} {ds : List D} {body : Env → Store → K → Prop} {k : K} {env : Env} {st : Store} (P : List D → Env → Store → Prop) (start : P ds env st)
    (stay : ∀ r env st, P r env st → SeqAt j ds st)
    (turn : ∀ (d : D) (r : List D) (env : Env) (st : Store) (N : Env → Store → Prop), P (d :: r) env st → (∀ e s, P r e s → N e s) → bindQ tg d env (lz (fun env' => body env' st (kl N k .mk)) .mk))
    (done : ∀ env st, P [] env st → k.nx env st) : ∃ n, forN j tg body k n 0 env st := by
  have main : ∀ (r : List D) (i : Nat) (env : Env) (st : Store), ds.drop i = r → P r env st → forN j tg body k (r.length + 1) i env st := fun r => by
    induction r with
    | nil =>
      intro i env st e p
      unfold forN
      rw [stay _ _ _ p i, drop_end e]
      exact done env st p
    | cons d r ih =>
      intro i env st e p
      unfold forN
      obtain ⟨e1, e2⟩ := drop_get e
      rw [stay _ _ _ p i, e1]
      have q := turn d r env st (forN j tg body k (r.length + 1) (i + 1)) p fun e' s' p' => ih (i + 1) e' s' e2 p'
      unfold bindQ at q
      cases eb : bindT tg d env with
      | none => rw [eb] at q; exact q.elim
      | some env' =>
        rw [eb] at q
        dsimp only
        rw [eb]
        exact q
  exact ⟨_, main ds 0 env st rfl start⟩
theorem cmp_a {j : J} {tg : Tg} {ds : List D} {tests : Env → Store → (Bool → Store → Prop) → Prop} {elt : Env → Store → QE → Prop} {h : Nat} {Q : QE} {env : Env} {st : Store} (P : List D → List D → Store → Prop) (start : P ds [] st)
    (stay : ∀ r acc st, P r acc st → SeqAt j ds st)
    (turn : ∀ (d : D) (r acc : List D) (st : Store) (N : List D → Store → Prop), P (d :: r) acc st → (∀ acc' s, P r acc' s → N acc' s) →
      bindQ tg d env (lz (fun env' => tests env' st (lz (fun b s1 => ifL b (lz (fun _ => elt env' s1 (lz (fun y s2 => lstQ s2[h]? (lz (fun acc => acc.length < line ∧ N (acc ++ [y]) (s2.set h (.lst (acc ++ [y])))) .mk)) .mk)) .mk) (lz (fun _ => N acc s1) .mk)) .mk)) .mk))
    (done : ∀ acc st, P [] acc st → Q (.ref h) st) : ∃ n, cmpN j tg tests elt h Q n 0 env st := by
  have main : ∀ (r acc : List D) (i : Nat) (st : Store), ds.drop i = r → P r acc st → cmpN j tg tests elt h Q (r.length + 1) i env st := fun r => by
    induction r with
    | nil =>
      intro acc i st e p
      unfold cmpN
      rw [stay _ _ _ p i, drop_end e]
      exact done acc st p
    | cons d r ih =>
      intro acc i st e p
      unfold cmpN
      obtain ⟨e1, e2⟩ := drop_get e
      rw [stay _ _ _ p i, e1]
      have q := turn d r acc st (fun acc' s => cmpN j tg tests elt h Q (r.length + 1) (i + 1) env s) p fun acc' s' p' => ih acc' (i + 1) s' e2 p'
      have c : ∀ s2 : Store, ∀ y : D, (match s2[h]? with
            | some (.lst acc) => acc.length < line ∧ cmpN j tg tests elt h Q (r.length + 1) (i + 1) env (s2.set h (.lst (acc ++ [y])))
            | _ => False) = lstQ s2[h]? (fun acc => acc.length < line ∧ cmpN j tg tests elt h Q (r.length + 1) (i + 1) env (s2.set h (.lst (acc ++ [y])))) := fun s2 y => by
        cases s2[h]? with
        | none => rfl
        | some o => cases o <;> rfl
      unfold bindQ at q
      cases eb : bindT tg d env with
      | none => rw [eb] at q; exact q.elim
      | some env' =>
        rw [eb] at q
        dsimp only
        rw [eb]
        show tests env' st fun b st1 => if b = true then elt env' st1 fun y st2 => (match st2[h]? with
            | some (.lst acc) => acc.length < line ∧ cmpN j tg tests elt h Q (r.length + 1) (i + 1) env (st2.set h (.lst (acc ++ [y])))
            | _ => False) else cmpN j tg tests elt h Q (r.length + 1) (i + 1) env st1
        simp only [c]
        exact q
  exact ⟨_, main ds [] 0 st rfl start⟩
theorem dcm_a {j : J} {tg : Tg} {ds : List D} {tests : Env → Store → (Bool → Store → Prop) → Prop} {kx vx : Env → Store → QE → Prop} {h : Nat} {Q : QE} {env : Env} {st : Store} (P : List D → List (D × D) → Store → Prop) (start : P ds [] st)
    (stay : ∀ r acc st, P r acc st → SeqAt j ds st)
    (turn : ∀ (d : D) (r : List D) (acc : List (D × D)) (st : Store) (N : List (D × D) → Store → Prop), P (d :: r) acc st → (∀ acc' s, P r acc' s → N acc' s) →
      bindQ tg d env (lz (fun env' => tests env' st (lz (fun b s1 => ifL b (lz (fun _ => kx env' s1 (lz (fun x s2 => vx env' s2 (lz (fun y s3 => dicQ s3[h]? (lz (fun kvs => keyD x = true ∧ kvs.length < line ∧ N (putK kvs x y) (s3.set h (.dic (putK kvs x y)))) .mk)) .mk)) .mk)) .mk) (lz (fun _ => N acc s1) .mk)) .mk)) .mk))
    (done : ∀ acc st, P [] acc st → Q (.ref h) st) : ∃ n, dcmN j tg tests kx vx h Q n 0 env st := by
  have main : ∀ (r : List D) (acc : List (D × D)) (i : Nat) (st : Store), ds.drop i = r → P r acc st → dcmN j tg tests kx vx h Q (r.length + 1) i env st := fun r => by
    induction r with
    | nil =>
      intro acc i st e p
      unfold dcmN
      rw [stay _ _ _ p i, drop_end e]
      exact done acc st p
    | cons d r ih =>
      intro acc i st e p
      unfold dcmN
      obtain ⟨e1, e2⟩ := drop_get e
      rw [stay _ _ _ p i, e1]
      have q := turn d r acc st (fun acc' s => dcmN j tg tests kx vx h Q (r.length + 1) (i + 1) env s) p fun acc' s' p' => ih acc' (i + 1) s' e2 p'
      have c : ∀ (s3 : Store) (x y : D), (match s3[h]? with
            | some (.dic kvs) => keyD x = true ∧ kvs.length < line ∧ dcmN j tg tests kx vx h Q (r.length + 1) (i + 1) env (s3.set h (.dic (putK kvs x y)))
            | _ => False) = dicQ s3[h]? (fun kvs => keyD x = true ∧ kvs.length < line ∧ dcmN j tg tests kx vx h Q (r.length + 1) (i + 1) env (s3.set h (.dic (putK kvs x y)))) := fun s3 x y => by
        cases s3[h]? with
        | none => rfl
        | some o => cases o <;> rfl
      unfold bindQ at q
      cases eb : bindT tg d env with
      | none => rw [eb] at q; exact q.elim
      | some env' =>
        rw [eb] at q
        dsimp only
        rw [eb]
        show tests env' st fun b st1 => if b = true then kx env' st1 fun x st2 => vx env' st2 fun y st3 => (match st3[h]? with
            | some (.dic kvs) => keyD x = true ∧ kvs.length < line ∧ dcmN j tg tests kx vx h Q (r.length + 1) (i + 1) env (st3.set h (.dic (putK kvs x y)))
            | _ => False) else dcmN j tg tests kx vx h Q (r.length + 1) (i + 1) env st1
        simp only [c]
        exact q
  exact ⟨_, main ds [] 0 st rfl start⟩
theorem cmp_mapA {α : Type} {j : J} {tg : Tg} {f F : α → D} {xs : List α} {tests : Env → Store → (Bool → Store → Prop) → Prop} {elt : Env → Store → QE → Prop} {Q : QE} {env : Env} {st : Store} (hl : xs.length ≤ 1000000) (stay : ∀ acc, SeqAt j (xs.map f) (st ++ [.lst acc]))
    (ht : ∀ e s P, P true s → tests e s P) (turn : ∀ x ∈ xs, ∀ (s : Store) (Q' : QE), Keep st s → Q' (F x) s → bindQ tg (f x) env fun e => elt e s Q') (done : Q (.ref st.length) (st ++ [.lst (xs.map F)])) : ∃ n, cmpN j tg tests elt st.length Q n 0 env (st ++ [.lst []]) := by
  refine cmp_a (ds := xs.map f) (fun r acc s => ∃ dn ys, xs = dn ++ ys ∧ r = ys.map f ∧ acc = dn.map F ∧ s = st ++ [.lst acc]) ⟨[], xs, rfl, rfl, rfl, rfl⟩ (fun r acc s ⟨dn, ys, e1, e2, e3, e4⟩ => by rw [e4]; exact stay acc) (fun d r acc s N ⟨dn, ys, e1, e2, e3, e4⟩ hN => ?_) (fun acc s ⟨dn, ys, e1, e2, e3, e4⟩ => ?_)
  · subst e4
    cases ys with
    | nil => cases e2
    | cons y ys =>
      cases e2
      have q := turn y (by rw [e1]; simp) (st ++ [.lst acc]) (lz (fun y s2 => lstQ s2[st.length]? (lz (fun acc => acc.length < line ∧ N (acc ++ [y]) (s2.set st.length (.lst (acc ++ [y])))) .mk)) .mk) (.new _ _) (by
        rw [lz1, get_snoc, lstQ_1, lz1]
        refine ⟨lt_line (by rw [e3, List.length_map]; have := congrArg List.length e1; simp at this; omega), hN _ _ ⟨dn ++ [y], ys, join_snoc e1, rfl, ?_, set_last _ _ _⟩⟩
        rw [e3]
        simp)
      unfold bindQ at q ⊢
      cases eb : bindT tg (f y) env with
      | none => rw [eb] at q; exact q
      | some env' =>
        rw [eb] at q
        show tests env' _ _
        refine ht _ _ _ ?_
        show ifL true _ _
        rw [z_ifT]
        exact q
  · subst e4
    cases ys with
    | cons y ys => cases e2
    | nil =>
      rw [List.append_nil] at e1
      subst e1 e3
      exact done
theorem whl_m {c : Env → Store → (Bool → Store → Prop) → Prop} {body : Env → Store → K → Prop} {k : K} {env : Env} {st : Store} (P : Nat → Env → Store → Prop) (n : Nat) (start : P n env st)
    (turn : ∀ (m : Nat) (env : Env) (st : Store) (N : Env → Store → Prop), P m env st → (∀ (m' : Nat) (e : Env) (s : Store), m' < m → P m' e s → N e s) → c env st (lz (fun b s1 => ifL b (lz (fun _ => body env s1 (kl N k .mk)) .mk) (lz (fun _ => k.nx env s1) .mk)) .mk)) : ∃ n, whlN c body k n env st := by
  have main : ∀ (n m : Nat) (env : Env) (st : Store), m ≤ n → P m env st → whlN c body k (n + 1) env st := fun n => by
    induction n with
    | zero => exact fun m env st l p => turn m env st (whlN c body k 0) p fun m' e s lt _ => absurd lt (by omega)
    | succ n ih => exact fun m env st l p => turn m env st (whlN c body k (n + 1)) p fun m' e s lt p' => ih m' e s (by omega) p'
  exact ⟨n + 1, main n n env st (Nat.le_refl _) start⟩
end
end Y
set_option Elab.async false
set_option linter.all false
set_option maxRecDepth 100000
set_option maxHeartbeats 0
namespace Y.K_k14
open PySem PySem.Spec PyProof.Rows L2
def top (i : Nat) : Stmt := PySem.Challenge.pw_pastless_k14_expressions_as_texts.main.body.getD i (.Pass ⟨0, 0, 0, 0⟩)
def inn (i j : Nat) : Stmt := match top i with
  | .ClassDef _ _ _ b _ _ _ _ _ _ _ => b.getD j (.Pass ⟨0, 0, 0, 0⟩)
  | _ => .Pass ⟨0, 0, 0, 0⟩
def b_is_integer : B := (.cons (.ret (.and (.isi (.var 0) [.int]) (.not (.isi (.var 0) [.bool])))) .nil)
def f_is_integer : Fd := ⟨⟨("is_integer", none), "is_integer", "is_integer", defArgs (top 9), defBody (top 9), defScope (top 9), [], []⟩, ["thing"], ["thing"], ⟨1, 1, b_is_integer⟩, []⟩
abbrev n_is_integer : Nat := 0
def b_is_expression : B := (.cons (.ifS (.tv (.isi (.var 0) [.str])) (.cons (.ret (.cmp .inn (.var 0) (.glo 1))) .nil) .nil) (.cons (.ifS (.tv (.isi (.var 0) [.tuple])) (.cons (.ifS (.or (.cmp .eq (.var 1) (.con (.int 0))) (.or (.cmp .ne (.pr .len (.cons (.var 0) .nil)) (.con (.int 3))) (.or (.not (.tv (.isi (.idx (.var 0) (.con (.int 0))) [.str]))) (.cmp .nin (.idx (.var 0) (.con (.int 0))) (.glo 0))))) (.cons (.ret (.con (.bl false))) .nil) .nil) (.cons (.ret (.and (.call 1 (.cons (.idx (.var 0) (.con (.int 1))) (.cons (.bin .sub (.var 1) (.con (.int 1))) .nil)) []) (.call 1 (.cons (.idx (.var 0) (.con (.int 2))) (.cons (.bin .sub (.var 1) (.con (.int 1))) .nil)) []))) .nil)) .nil) (.cons (.ret (.and (.call 0 (.cons (.var 0) .nil) []) (.chain .le .le (.con (.int 0)) (.var 0) (.con (.int 9))))) .nil)))
def f_is_expression : Fd := ⟨⟨("is_expression", none), "is_expression", "is_expression", defArgs (top 10), defBody (top 10), defScope (top 10), [.int 6], []⟩, ["thing", "depth"], ["thing", "depth"], ⟨2, 2, b_is_expression⟩, [(.int 6)]⟩
abbrev n_is_expression : Nat := 1
def b_written : B := (.cons (.ifS (.tv (.isi (.var 0) [.tuple])) (.cons (.ret (.bin .add (.bin .add (.bin .add (.bin .add (.con (.str [40])) (.call 2 (.cons (.idx (.var 0) (.con (.int 1))) .nil) [])) (.idx (.var 0) (.con (.int 0)))) (.call 2 (.cons (.idx (.var 0) (.con (.int 2))) .nil) [])) (.con (.str [41])))) .nil) .nil) (.cons (.ret (.pr .str (.cons (.var 0) .nil))) .nil))
def f_written : Fd := ⟨⟨("written", none), "written", "written", defArgs (top 13), defBody (top 13), defScope (top 13), [], []⟩, ["part"], ["part"], ⟨1, 1, b_written⟩, []⟩
abbrev n_written : Nat := 2
def b_expect : B := (.cons (.ifS (.not (.tv (.var 0))) (.cons (.rais 1 .nil) .nil) .nil) .nil)
def f_expect : Fd := ⟨⟨("expect", none), "expect", "expect", defArgs (top 14), defBody (top 14), defScope (top 14), [], []⟩, ["condition"], ["condition"], ⟨1, 1, b_expect⟩, []⟩
abbrev n_expect : Nat := 3
def b_parsed : B := (.cons (.asg (.nm 3) (.sli (.var 0) (.var 1) (.bin .add (.var 1) (.con (.int 1))))) (.cons (.ifS (.cmp .inn (.var 3) (.glo 1)) (.cons (.ret (.tup (.cons (.var 3) (.cons (.bin .add (.var 1) (.con (.int 1))) .nil)))) .nil) .nil) (.cons (.ifS (.cmp .inn (.var 3) (.glo 3)) (.cons (.ret (.tup (.cons (.pr .int (.cons (.var 3) .nil)) (.cons (.bin .add (.var 1) (.con (.int 1))) .nil)))) .nil) .nil) (.cons (.exp (.call 3 (.cons (.and (.cmp .eq (.var 3) (.con (.str [40]))) (.cmp .gt (.var 2) (.con (.int 0)))) .nil) [])) (.cons (.asg (.tp [4, 1]) (.call 4 (.cons (.var 0) (.cons (.bin .add (.var 1) (.con (.int 1))) (.cons (.bin .sub (.var 2) (.con (.int 1))) .nil))) [])) (.cons (.asg (.nm 3) (.sli (.var 0) (.var 1) (.bin .add (.var 1) (.con (.int 1))))) (.cons (.exp (.call 3 (.cons (.cmp .inn (.var 3) (.glo 0)) .nil) [])) (.cons (.asg (.tp [5, 1]) (.call 4 (.cons (.var 0) (.cons (.bin .add (.var 1) (.con (.int 1))) (.cons (.bin .sub (.var 2) (.con (.int 1))) .nil))) [])) (.cons (.exp (.call 3 (.cons (.cmp .eq (.sli (.var 0) (.var 1) (.bin .add (.var 1) (.con (.int 1)))) (.con (.str [41]))) .nil) [])) (.cons (.ret (.tup (.cons (.tup (.cons (.var 3) (.cons (.var 4) (.cons (.var 5) .nil)))) (.cons (.bin .add (.var 1) (.con (.int 1))) .nil)))) .nil))))))))))
def f_parsed : Fd := ⟨⟨("parsed", none), "parsed", "parsed", defArgs (top 15), defBody (top 15), defScope (top 15), [], []⟩, ["text", "at", "depth", "sign", "first", "second"], ["text", "at", "depth"], ⟨3, 6, b_parsed⟩, []⟩
abbrev n_parsed : Nat := 4
def b_expression_of : B := (.cons (.asg (.tp [1, 2]) (.call 4 (.cons (.var 0) (.cons (.con (.int 0)) (.cons (.glo 2) .nil))) [])) (.cons (.exp (.call 3 (.cons (.cmp .eq (.var 2) (.pr .len (.cons (.var 0) .nil))) .nil) [])) (.cons (.ret (.var 1)) .nil)))
def f_expression_of : Fd := ⟨⟨("expression_of", none), "expression_of", "expression_of", defArgs (top 16), defBody (top 16), defScope (top 16), [], []⟩, ["text", "e", "at"], ["text"], ⟨1, 3, b_expression_of⟩, []⟩
abbrev n_expression_of : Nat := 5
def b_expression_text : B := (.cons (.ifS (.not (.tv (.call 1 (.cons (.var 0) .nil) [(.int 6)]))) (.cons (.rais 1 .nil) .nil) .nil) (.cons (.ret (.call 2 (.cons (.var 0) .nil) [])) .nil))
def f_expression_text : Fd := ⟨⟨("expression_text", none), "expression_text", "expression_text", defArgs (top 18), defBody (top 18), defScope (top 18), [], []⟩, ["e"], ["e"], ⟨1, 1, b_expression_text⟩, []⟩
abbrev n_expression_text : Nat := 6
def b_read_expression : B := (.cons (.ifS (.not (.tv (.isi (.var 0) [.str]))) (.cons (.rais 1 .nil) .nil) .nil) (.cons (.ret (.call 5 (.cons (.var 0) .nil) [])) .nil))
def f_read_expression : Fd := ⟨⟨("read_expression", none), "read_expression", "read_expression", defArgs (top 19), defBody (top 19), defScope (top 19), [], []⟩, ["text"], ["text"], ⟨1, 1, b_read_expression⟩, []⟩
abbrev n_read_expression : Nat := 7
def b__law_pool : B := (.cons (.ifS (.cmp .eq (.pr .len (.cons (.var 0) .nil)) (.con (.int 0))) (.cons (.ret (.lst (.cons (.con (.int 0)) (.cons (.bin .add (.con (.int 5)) (.bin .mul (.con (.int 1009)) (.var 1))) (.cons (.con (.int 0)) .nil))))) .nil) .nil) (.cons (.asg (.nm 2) (.pr .abs (.cons (.idx (.var 0) (.bin .mod (.var 1) (.pr .len (.cons (.var 0) .nil)))) .nil))) (.cons (.asg (.nm 3) (.bin .add (.bin .add (.bin .mod (.pr .int (.cons (.var 2) .nil)) (.con (.int 2147483629))) (.bin .mul (.con (.int 1009)) (.var 1))) (.pr .int (.cons (.cmp .lt (.idx (.var 0) (.bin .mod (.var 1) (.pr .len (.cons (.var 0) .nil)))) (.con (.int 0))) .nil)))) (.cons (.ifS (.and (.cmp .lt (.var 1) (.pr .len (.cons (.var 0) .nil))) (.cmp .ge (.var 2) (.bin .pow (.con (.int 10)) (.con (.int 18))))) (.cons (.ret (.lst (.cons (.var 2) (.cons (.var 3) (.cons (.con (.int 0)) .nil))))) .nil) .nil) (.cons (.ret (.lst (.cons (.con (.int 0)) (.cons (.var 3) (.cons (.con (.int 0)) .nil))))) .nil)))))
def f__law_pool : Fd := ⟨⟨("_law_pool", none), "_law_pool", "_law_pool", defArgs (top 21), defBody (top 21), defScope (top 21), [], []⟩, ["_law_script", "_law_k", "_law_cell", "_law_seed"], ["_law_script", "_law_k"], ⟨2, 4, b__law_pool⟩, []⟩
abbrev n__law_pool : Nat := 8
def b__law_draw : B := (.cons (.ifS (.cmp .gt (.idx (.var 0) (.con (.int 0))) (.con (.int 0))) (.cons (.asg (.nm 2) (.bin .mod (.pr .int (.cons (.idx (.var 0) (.con (.int 0))) .nil)) (.var 1))) (.cons (.seti (.var 0) (.con (.int 0)) (.bin .fdiv (.idx (.var 0) (.con (.int 0))) (.var 1))) (.cons (.ret (.var 2)) .nil))) .nil) (.cons (.seti (.var 0) (.con (.int 2)) (.bin .add (.idx (.var 0) (.con (.int 2))) (.con (.int 1)))) (.cons (.asg (.nm 3) (.bin .mod (.pr .int (.cons (.bin .mul (.bin .add (.idx (.var 0) (.con (.int 1))) (.con (.int 1))) (.bin .add (.bin .mul (.con (.int 7919)) (.idx (.var 0) (.con (.int 2)))) (.con (.int 104729)))) .nil)) (.con (.int 2147483647)))) (.cons (.asg (.nm 3) (.bin .mod (.pr .int (.cons (.bin .mul (.var 3) (.bin .add (.bin .fdiv (.var 3) (.con (.int 1009))) (.con (.int 69621)))) .nil)) (.con (.int 2147483647)))) (.cons (.asg (.nm 3) (.bin .mod (.pr .int (.cons (.bin .mul (.var 3) (.bin .add (.bin .fdiv (.var 3) (.con (.int 2003))) (.con (.int 40692)))) .nil)) (.con (.int 2147483399)))) (.cons (.ret (.bin .mod (.pr .int (.cons (.bin .fdiv (.var 3) (.con (.int 16))) .nil)) (.var 1))) .nil))))))
def f__law_draw : Fd := ⟨⟨("_law_draw", none), "_law_draw", "_law_draw", defArgs (top 22), defBody (top 22), defScope (top 22), [], []⟩, ["_law_pool_here", "_law_many", "_law_digit", "_law_number"], ["_law_pool_here", "_law_many"], ⟨2, 4, b__law_draw⟩, []⟩
abbrev n__law_draw : Nat := 9
def b__law_leaf : B := (.cons (.ifS (.cmp .eq (.call 9 (.cons (.var 0) (.cons (.con (.int 3)) .nil)) []) (.con (.int 0))) (.cons (.ret (.call 9 (.cons (.var 0) (.cons (.con (.int 10)) .nil)) [])) .nil) .nil) (.cons (.ret (.idx (.con (.str [97, 98, 99, 100, 120])) (.call 9 (.cons (.var 0) (.cons (.con (.int 5)) .nil)) []))) .nil))
def f__law_leaf : Fd := ⟨⟨("_law_leaf", none), "_law_leaf", "_law_leaf", defArgs (top 23), defBody (top 23), defScope (top 23), [], []⟩, ["_law_pool_here"], ["_law_pool_here"], ⟨1, 1, b__law_leaf⟩, []⟩
abbrev n__law_leaf : Nat := 10
def b__law_tree : B := (.cons (.ifS (.cmp .eq (.var 1) (.con (.int 0))) (.cons (.ret (.call 10 (.cons (.var 0) .nil) [])) .nil) .nil) (.cons (.asg (.nm 2) (.idx (.con (.str [43, 45, 42, 61, 60])) (.call 9 (.cons (.var 0) (.cons (.con (.int 5)) .nil)) []))) (.cons (.asg (.nm 3) (.call 9 (.cons (.var 0) (.cons (.con (.int 2)) .nil)) [])) (.cons (.asg (.nm 4) (.call 11 (.cons (.var 0) (.cons (.call 9 (.cons (.var 0) (.cons (.var 1) .nil)) []) .nil)) [])) (.cons (.asg (.nm 5) (.call 11 (.cons (.var 0) (.cons (.bin .sub (.var 1) (.con (.int 1))) .nil)) [])) (.cons (.ifS (.cmp .eq (.var 3) (.con (.int 0))) (.cons (.ret (.tup (.cons (.var 2) (.cons (.var 5) (.cons (.var 4) .nil))))) .nil) .nil) (.cons (.ret (.tup (.cons (.var 2) (.cons (.var 4) (.cons (.var 5) .nil))))) .nil)))))))
def f__law_tree : Fd := ⟨⟨("_law_tree", none), "_law_tree", "_law_tree", defArgs (top 24), defBody (top 24), defScope (top 24), [], []⟩, ["_law_pool_here", "_law_depth", "_law_sign_here", "_law_side", "_law_other", "_law_deep"], ["_law_pool_here", "_law_depth"], ⟨2, 6, b__law_tree⟩, []⟩
abbrev n__law_tree : Nat := 11
def b__law_odd : B := (.cons (.asg (.nm 1) (.lst (.cons (.con (.int 10)) (.cons (.neg (.con (.int 1))) (.cons (.con (.bl true)) (.cons (.con (.bl false)) (.cons (.con .non) (.cons (.con (.str [101])) (.cons (.con (.str [])) (.cons (.con (.str [88])) (.cons (.con (.str [97, 98])) (.cons (.con (.str [49])) (.cons (.con (.str [43])) (.cons (.bin .pow (.con (.int 10)) (.con (.int 30))) (.cons (.lst (.cons (.con (.str [43])) (.cons (.con (.str [97])) (.cons (.con (.int 1)) .nil)))) (.cons (.tup (.cons (.con (.str [43])) (.cons (.con (.str [97])) .nil))) .nil)))))))))))))))) (.cons (.asg (.nm 1) (.bin .add (.var 1) (.lst (.cons (.tup (.cons (.con (.str [43])) (.cons (.con (.str [97])) (.cons (.con (.int 1)) (.cons (.con (.int 1)) .nil))))) (.cons (.tup (.cons (.con (.str [47])) (.cons (.con (.str [97])) (.cons (.con (.int 1)) .nil)))) (.cons (.tup (.cons (.con (.str [97])) (.cons (.con (.str [97])) (.cons (.con (.int 1)) .nil)))) (.cons (.tup (.cons (.con (.int 1)) (.cons (.con (.str [97])) (.cons (.con (.int 1)) .nil)))) (.cons (.tup .nil) (.cons (.tup (.cons (.con (.str [43])) (.cons (.con (.bl true)) (.cons (.con (.int 1)) .nil)))) (.cons (.tup (.cons (.lst (.cons (.con (.str [43])) .nil)) (.cons (.con (.str [97])) (.cons (.con (.int 1)) .nil)))) .nil)))))))))) (.cons (.asg (.nm 1) (.bin .add (.var 1) (.lst (.cons (.dic .nil) (.cons (.tup (.cons (.con (.str [])) (.cons (.con (.str [97])) (.cons (.con (.int 1)) .nil)))) (.cons (.tup (.cons (.con (.str [43, 45])) (.cons (.con (.str [97])) (.cons (.con (.int 1)) .nil)))) (.cons (.lst (.cons (.con (.str [97])) .nil)) (.cons (.tup (.cons (.con (.str [97])) .nil)) (.cons (.con (.int 9)) (.cons (.con (.int 0)) (.cons (.con (.str [120])) (.cons (.tup (.cons (.con (.str [61])) (.cons (.tup (.cons (.con (.str [60])) (.cons (.con (.str [120])) (.cons (.con (.int 0)) .nil)))) (.cons (.con (.int 9)) .nil)))) .nil)))))))))))) (.cons (.ret (.idx (.var 1) (.bin .mod (.pr .int (.cons (.var 0) .nil)) (.pr .len (.cons (.var 1) .nil))))) .nil))))
def f__law_odd : Fd := ⟨⟨("_law_odd", none), "_law_odd", "_law_odd", defArgs (top 25), defBody (top 25), defScope (top 25), [], []⟩, ["_law_k", "_law_odds"], ["_law_k"], ⟨1, 2, b__law_odd⟩, []⟩
abbrev n__law_odd : Nat := 12
def b__law_nodes : B := (.cons (.ifS (.tv (.isi (.var 0) [.tuple])) (.cons (.ret (.bin .add (.bin .add (.con (.int 1)) (.call 13 (.cons (.idx (.var 0) (.con (.int 1))) .nil) [])) (.call 13 (.cons (.idx (.var 0) (.con (.int 2))) .nil) []))) .nil) .nil) (.cons (.ret (.con (.int 1))) .nil))
def f__law_nodes : Fd := ⟨⟨("_law_nodes", none), "_law_nodes", "_law_nodes", defArgs (top 26), defBody (top 26), defScope (top 26), [], []⟩, ["_law_e"], ["_law_e"], ⟨1, 1, b__law_nodes⟩, []⟩
abbrev n__law_nodes : Nat := 13
def b__law_put : B := (.cons (.seti (.var 1) (.con (.int 0)) (.bin .sub (.idx (.var 1) (.con (.int 0))) (.con (.int 1)))) (.cons (.ifS (.cmp .eq (.idx (.var 1) (.con (.int 0))) (.neg (.con (.int 1)))) (.cons (.ret (.var 2)) .nil) .nil) (.cons (.ifS (.tv (.isi (.var 0) [.tuple])) (.cons (.asg (.nm 3) (.call 14 (.cons (.idx (.var 0) (.con (.int 1))) (.cons (.var 1) (.cons (.var 2) .nil))) [])) (.cons (.ret (.tup (.cons (.idx (.var 0) (.con (.int 0))) (.cons (.var 3) (.cons (.call 14 (.cons (.idx (.var 0) (.con (.int 2))) (.cons (.var 1) (.cons (.var 2) .nil))) []) .nil))))) .nil)) .nil) (.cons (.ret (.var 0)) .nil))))
def f__law_put : Fd := ⟨⟨("_law_put", none), "_law_put", "_law_put", defArgs (top 27), defBody (top 27), defScope (top 27), [], []⟩, ["_law_e", "_law_left", "_law_odd_here", "_law_first"], ["_law_e", "_law_left", "_law_odd_here"], ⟨3, 4, b__law_put⟩, []⟩
abbrev n__law_put : Nat := 14
def b__law_good : B := (.cons (.ifS (.or (.tv (.isi (.var 0) [.bool])) (.isN (.var 0))) (.cons (.ret (.con (.bl false))) .nil) .nil) (.cons (.ifS (.tv (.isi (.var 0) [.int])) (.cons (.ret (.chain .le .le (.con (.int 0)) (.var 0) (.con (.int 9)))) .nil) .nil) (.cons (.ifS (.tv (.isi (.var 0) [.str])) (.cons (.ret (.cmp .inn (.var 0) (.lst (.cons (.con (.str [97])) (.cons (.con (.str [98])) (.cons (.con (.str [99])) (.cons (.con (.str [100])) (.cons (.con (.str [120])) .nil)))))))) .nil) .nil) (.cons (.ifS (.or (.not (.tv (.isi (.var 0) [.tuple]))) (.or (.cmp .ne (.pr .len (.cons (.var 0) .nil)) (.con (.int 3))) (.cmp .eq (.var 1) (.con (.int 0))))) (.cons (.ret (.con (.bl false))) .nil) .nil) (.cons (.ifS (.or (.not (.tv (.isi (.idx (.var 0) (.con (.int 0))) [.str]))) (.cmp .nin (.idx (.var 0) (.con (.int 0))) (.lst (.cons (.con (.str [43])) (.cons (.con (.str [45])) (.cons (.con (.str [42])) (.cons (.con (.str [61])) (.cons (.con (.str [60])) .nil)))))))) (.cons (.ret (.con (.bl false))) .nil) .nil) (.cons (.ret (.and (.call 15 (.cons (.idx (.var 0) (.con (.int 1))) (.cons (.bin .sub (.var 1) (.con (.int 1))) .nil)) []) (.call 15 (.cons (.idx (.var 0) (.con (.int 2))) (.cons (.bin .sub (.var 1) (.con (.int 1))) .nil)) []))) .nil))))))
def f__law_good : Fd := ⟨⟨("_law_good", none), "_law_good", "_law_good", defArgs (top 28), defBody (top 28), defScope (top 28), [], []⟩, ["_law_e", "_law_depth"], ["_law_e", "_law_depth"], ⟨2, 2, b__law_good⟩, []⟩
abbrev n__law_good : Nat := 15
def b__law_text : B := (.cons (.ifS (.tv (.isi (.var 0) [.tuple])) (.cons (.ret (.bin .add (.bin .add (.bin .add (.bin .add (.con (.str [40])) (.call 16 (.cons (.idx (.var 0) (.con (.int 1))) .nil) [])) (.idx (.var 0) (.con (.int 0)))) (.call 16 (.cons (.idx (.var 0) (.con (.int 2))) .nil) [])) (.con (.str [41])))) .nil) .nil) (.cons (.ret (.pr .str (.cons (.var 0) .nil))) .nil))
def f__law_text : Fd := ⟨⟨("_law_text", none), "_law_text", "_law_text", defArgs (top 29), defBody (top 29), defScope (top 29), [], []⟩, ["_law_e"], ["_law_e"], ⟨1, 1, b__law_text⟩, []⟩
abbrev n__law_text : Nat := 16
def b__law_sign : B := (.cons (.ifS (.cmp .gt (.call 9 (.cons (.var 0) (.cons (.con (.int 4)) .nil)) []) (.con (.int 0))) (.cons (.ret (.idx (.con (.str [97, 98, 99, 100, 120, 48, 49, 57, 40, 41, 43, 45, 42, 61, 60, 101, 32, 50])) (.call 9 (.cons (.var 0) (.cons (.con (.int 18)) .nil)) []))) .nil) .nil) (.cons (.asg (.nm 1) (.con (.str [32, 33, 34, 35, 36, 38, 39, 40, 41, 42, 43, 44, 45, 46, 47, 48, 49, 50, 51, 52, 53, 54, 55, 56, 57, 58, 59, 60, 61, 62, 63, 64, 65, 66, 67, 68, 69, 70, 71, 72, 73, 74, 75, 76, 77, 78, 79, 80, 81, 82, 83, 84, 85, 86, 87, 88, 89, 90, 91, 92, 93, 94, 95, 96]))) (.cons (.asg (.nm 1) (.bin .add (.var 1) (.con (.str [97, 98, 99, 100, 101, 102, 103, 104, 105, 106, 107, 108, 109, 110, 111, 112, 113, 114, 115, 116, 117, 118, 119, 120, 121, 122, 123, 124, 125, 126, 10])))) (.cons (.ret (.idx (.var 1) (.call 9 (.cons (.var 0) (.cons (.con (.int 95)) .nil)) []))) .nil))))
def f__law_sign : Fd := ⟨⟨("_law_sign", none), "_law_sign", "_law_sign", defArgs (top 30), defBody (top 30), defScope (top 30), [], []⟩, ["_law_pool_here", "_law_signs"], ["_law_pool_here"], ⟨1, 2, b__law_sign⟩, []⟩
abbrev n__law_sign : Nat := 17
def b__law_change : B := (.cons (.ifS (.cmp .eq (.pr .len (.cons (.var 0) .nil)) (.con (.int 0))) (.cons (.ret (.var 3)) .nil) .nil) (.cons (.asg (.nm 2) (.bin .mod (.pr .int (.cons (.var 2) .nil)) (.pr .len (.cons (.var 0) .nil)))) (.cons (.ifS (.cmp .eq (.var 1) (.con (.int 0))) (.cons (.ret (.bin .add (.sli (.var 0) .abs0 (.var 2)) (.sli (.var 0) (.bin .add (.var 2) (.con (.int 1))) .abs0))) .nil) .nil) (.cons (.ifS (.cmp .eq (.var 1) (.con (.int 1))) (.cons (.ret (.bin .add (.bin .add (.sli (.var 0) .abs0 (.var 2)) (.var 3)) (.sli (.var 0) (.var 2) .abs0))) .nil) .nil) (.cons (.ifS (.cmp .eq (.var 1) (.con (.int 2))) (.cons (.ret (.bin .add (.bin .add (.sli (.var 0) .abs0 (.var 2)) (.var 3)) (.sli (.var 0) (.bin .add (.var 2) (.con (.int 1))) .abs0))) .nil) .nil) (.cons (.ifS (.cmp .eq (.var 1) (.con (.int 3))) (.cons (.ret (.bin .add (.var 0) (.var 3))) .nil) .nil) (.cons (.ifS (.cmp .eq (.var 1) (.con (.int 4))) (.cons (.ret (.bin .add (.sli (.var 0) .abs0 (.bin .add (.var 2) (.con (.int 1)))) (.sli (.var 0) (.var 2) .abs0))) .nil) .nil) (.cons (.ret (.sli (.var 0) .abs0 (.var 2))) .nil))))))))
def f__law_change : Fd := ⟨⟨("_law_change", none), "_law_change", "_law_change", defArgs (top 31), defBody (top 31), defScope (top 31), [], []⟩, ["_law_text_here", "_law_kind", "_law_at", "_law_sign_here"], ["_law_text_here", "_law_kind", "_law_at", "_law_sign_here"], ⟨4, 4, b__law_change⟩, []⟩
abbrev n__law_change : Nat := 18
def b__law_read : B := (.cons (.asg (.nm 1) (.lst .nil)) (.cons (.forS (.nm 2) (.sq (.var 0)) (.cons (.ifS (.cmp .inn (.var 2) (.con (.str [97, 98, 99, 100, 120]))) (.cons (.exp (.me .append (.var 1) (.cons (.tup (.cons (.con (.str [101, 120, 112, 114])) (.cons (.var 2) (.cons (.con (.int 0)) .nil)))) .nil))) .nil) (.cons (.ifS (.cmp .inn (.var 2) (.con (.str [48, 49, 50, 51, 52, 53, 54, 55, 56, 57]))) (.cons (.exp (.me .append (.var 1) (.cons (.tup (.cons (.con (.str [101, 120, 112, 114])) (.cons (.pr .int (.cons (.var 2) .nil)) (.cons (.con (.int 0)) .nil)))) .nil))) .nil) (.cons (.ifS (.cmp .eq (.var 2) (.con (.str [41]))) (.cons (.asg (.nm 3) (.sli (.var 1) (.neg (.con (.int 4))) .abs0)) (.cons (.ifS (.or (.cmp .lt (.pr .len (.cons (.var 3) .nil)) (.con (.int 4))) (.or (.cmp .ne (.idx (.idx (.var 3) (.con (.int 0))) (.con (.int 0))) (.con (.str [40]))) (.cmp .ne (.idx (.idx (.var 3) (.con (.int 1))) (.con (.int 0))) (.con (.str [101, 120, 112, 114]))))) (.cons (.ret (.con .non)) .nil) .nil) (.cons (.ifS (.or (.cmp .ne (.idx (.idx (.var 3) (.con (.int 3))) (.con (.int 0))) (.con (.str [101, 120, 112, 114]))) (.cmp .nin (.idx (.idx (.var 3) (.con (.int 2))) (.con (.int 0))) (.lst (.cons (.con (.str [43])) (.cons (.con (.str [45])) (.cons (.con (.str [42])) (.cons (.con (.str [61])) (.cons (.con (.str [60])) .nil)))))))) (.cons (.ret (.con .non)) .nil) .nil) (.cons (.asg (.nm 4) (.bin .add (.con (.int 1)) (.pr .max2 (.cons (.idx (.idx (.var 3) (.con (.int 1))) (.con (.int 2))) (.cons (.idx (.idx (.var 3) (.con (.int 3))) (.con (.int 2))) .nil))))) (.cons (.ifS (.cmp .gt (.var 4) (.con (.int 6))) (.cons (.ret (.con .non)) .nil) .nil) (.cons (.asg (.nm 1) (.sli (.var 1) .abs0 (.neg (.con (.int 4))))) (.cons (.exp (.me .append (.var 1) (.cons (.tup (.cons (.con (.str [101, 120, 112, 114])) (.cons (.tup (.cons (.idx (.idx (.var 3) (.con (.int 2))) (.con (.int 0))) (.cons (.idx (.idx (.var 3) (.con (.int 1))) (.con (.int 1))) (.cons (.idx (.idx (.var 3) (.con (.int 3))) (.con (.int 1))) .nil)))) (.cons (.var 4) .nil)))) .nil))) .nil))))))) (.cons (.ifS (.and (.cmp .eq (.var 2) (.con (.str [40]))) (.cmp .gt (.pr .len (.cons (.var 1) .nil)) (.con (.int 40)))) (.cons (.ret (.con .non)) .nil) (.cons (.exp (.me .append (.var 1) (.cons (.tup (.cons (.var 2) (.cons (.con (.int 0)) (.cons (.con (.int 0)) .nil)))) .nil))) .nil)) .nil)) .nil)) .nil)) .nil)) (.cons (.ifS (.or (.cmp .ne (.pr .len (.cons (.var 1) .nil)) (.con (.int 1))) (.cmp .ne (.idx (.idx (.var 1) (.con (.int 0))) (.con (.int 0))) (.con (.str [101, 120, 112, 114])))) (.cons (.ret (.con .non)) .nil) .nil) (.cons (.ret (.tup (.cons (.idx (.idx (.var 1) (.con (.int 0))) (.con (.int 1))) .nil))) .nil))))
def f__law_read : Fd := ⟨⟨("_law_read", none), "_law_read", "_law_read", defArgs (top 32), defBody (top 32), defScope (top 32), [], []⟩, ["_law_text_here", "_law_stack", "_law_sign_here", "_law_last", "_law_depth"], ["_law_text_here"], ⟨1, 5, b__law_read⟩, []⟩
abbrev n__law_read : Nat := 19
def b__law_same : B := (.cons (.ifS (.tv (.isi (.var 1) [.tuple])) (.cons (.ifS (.or (.not (.tv (.isi (.var 0) [.tuple]))) (.or (.cmp .ne (.pr .len (.cons (.var 0) .nil)) (.con (.int 3))) (.or (.not (.tv (.isi (.idx (.var 0) (.con (.int 0))) [.str]))) (.cmp .ne (.idx (.var 0) (.con (.int 0))) (.idx (.var 1) (.con (.int 0))))))) (.cons (.ret (.con (.bl false))) .nil) .nil) (.cons (.ret (.and (.call 20 (.cons (.idx (.var 0) (.con (.int 1))) (.cons (.idx (.var 1) (.con (.int 1))) .nil)) []) (.call 20 (.cons (.idx (.var 0) (.con (.int 2))) (.cons (.idx (.var 1) (.con (.int 2))) .nil)) []))) .nil)) .nil) (.cons (.ifS (.tv (.isi (.var 1) [.str])) (.cons (.ret (.and (.isi (.var 0) [.str]) (.cmp .eq (.var 0) (.var 1)))) .nil) .nil) (.cons (.ret (.and (.isi (.var 0) [.int]) (.and (.not (.isi (.var 0) [.bool])) (.cmp .eq (.var 0) (.var 1))))) .nil)))
def f__law_same : Fd := ⟨⟨("_law_same", none), "_law_same", "_law_same", defArgs (top 33), defBody (top 33), defScope (top 33), [], []⟩, ["_law_one", "_law_due"], ["_law_one", "_law_due"], ⟨2, 2, b__law_same⟩, []⟩
abbrev n__law_same : Nat := 20
def b__law_asked : B := (.cons (.asg (.nm 2) (.tup (.cons (.con (.str [110, 111, 110, 101])) (.cons (.con (.bl false)) .nil)))) (.cons (.tryS (.cons (.ifS (.tv (.var 0)) (.cons (.asg (.nm 2) (.tup (.cons (.con (.str [116, 111, 108, 100])) (.cons (.call 7 (.cons (.var 1) .nil) []) .nil)))) .nil) (.cons (.asg (.nm 2) (.tup (.cons (.con (.str [116, 111, 108, 100])) (.cons (.call 6 (.cons (.var 1) .nil) []) .nil)))) .nil)) .nil) (.cons 1 (some 3) (.cons (.asg (.nm 2) (.tup (.cons (.con (.str [114, 101, 102, 117, 115, 101, 100])) (.cons (.and (.eisi [none]) (.not (.eisi [some 3, some 2]))) .nil)))) .nil) (.cons 0 (some 3) (.cons (.asg (.nm 2) (.tup (.cons (.con (.str [114, 101, 102, 117, 115, 101, 100])) (.cons (.con (.bl false)) .nil)))) .nil) .nil))) (.cons (.ret (.var 2)) .nil)))
def f__law_asked : Fd := ⟨⟨("_law_asked", none), "_law_asked", "_law_asked", defArgs (top 34), defBody (top 34), defScope (top 34), [], []⟩, ["_law_reading", "_law_thing", "_law_told", "error"], ["_law_reading", "_law_thing"], ⟨2, 4, b__law_asked⟩, []⟩
abbrev n__law_asked : Nat := 21
def b__law_writes : B := (.cons (.asg (.nm 1) (.call 21 (.cons (.con (.bl false)) (.cons (.var 0) .nil)) [])) (.cons (.ifS (.not (.tv (.call 15 (.cons (.var 0) (.cons (.con (.int 6)) .nil)) []))) (.cons (.ret (.and (.cmp .eq (.idx (.var 1) (.con (.int 0))) (.con (.str [114, 101, 102, 117, 115, 101, 100]))) (.idx (.var 1) (.con (.int 1))))) .nil) .nil) (.cons (.ret (.and (.cmp .eq (.idx (.var 1) (.con (.int 0))) (.con (.str [116, 111, 108, 100]))) (.and (.isi (.idx (.var 1) (.con (.int 1))) [.str]) (.cmp .eq (.idx (.var 1) (.con (.int 1))) (.call 16 (.cons (.var 0) .nil) []))))) .nil)))
def f__law_writes : Fd := ⟨⟨("_law_writes", none), "_law_writes", "_law_writes", defArgs (top 35), defBody (top 35), defScope (top 35), [], []⟩, ["_law_thing", "_law_told"], ["_law_thing"], ⟨1, 2, b__law_writes⟩, []⟩
abbrev n__law_writes : Nat := 22
def b__law_reads : B := (.cons (.asg (.nm 1) (.con .non)) (.cons (.ifS (.tv (.isi (.var 0) [.str])) (.cons (.asg (.nm 1) (.call 19 (.cons (.var 0) .nil) [])) .nil) .nil) (.cons (.asg (.nm 2) (.call 21 (.cons (.con (.bl true)) (.cons (.var 0) .nil)) [])) (.cons (.ifS (.isN (.var 1)) (.cons (.ret (.and (.cmp .eq (.idx (.var 2) (.con (.int 0))) (.con (.str [114, 101, 102, 117, 115, 101, 100]))) (.idx (.var 2) (.con (.int 1))))) .nil) .nil) (.cons (.ifS (.or (.cmp .ne (.idx (.var 2) (.con (.int 0))) (.con (.str [116, 111, 108, 100]))) (.not (.tv (.call 20 (.cons (.idx (.var 2) (.con (.int 1))) (.cons (.idx (.var 1) (.con (.int 0))) .nil)) [])))) (.cons (.ret (.con (.bl false))) .nil) .nil) (.cons (.ret (.and (.cmp .eq (.call 16 (.cons (.idx (.var 1) (.con (.int 0))) .nil) []) (.var 0)) (.call 22 (.cons (.idx (.var 2) (.con (.int 1))) .nil) []))) .nil))))))
def f__law_reads : Fd := ⟨⟨("_law_reads", none), "_law_reads", "_law_reads", defArgs (top 36), defBody (top 36), defScope (top 36), [], []⟩, ["_law_text_here", "_law_due", "_law_told"], ["_law_text_here"], ⟨1, 3, b__law_reads⟩, []⟩
abbrev n__law_reads : Nat := 23
def b_law : B := (.cons (.asg (.nm 1) (.call 8 (.cons (.var 0) (.cons (.con (.int 0)) .nil)) [])) (.cons (.asg (.nm 2) (.call 9 (.cons (.var 1) (.cons (.con (.int 10)) .nil)) [])) (.cons (.asg (.nm 3) (.idx (.lst (.cons (.con (.int 0)) (.cons (.con (.int 1)) (.cons (.con (.int 2)) (.cons (.con (.int 3)) (.cons (.con (.int 4)) (.cons (.con (.int 5)) (.cons (.con (.int 6)) (.cons (.con (.int 6)) (.cons (.con (.int 7)) .nil)))))))))) (.call 9 (.cons (.var 1) (.cons (.con (.int 9)) .nil)) []))) (.cons (.asg (.nm 4) (.call 9 (.cons (.var 1) (.cons (.con (.int 50)) .nil)) [])) (.cons (.asg (.nm 5) (.call 12 (.cons (.call 9 (.cons (.var 1) (.cons (.con (.int 30)) .nil)) []) .nil) [])) (.cons (.asg (.nm 6) (.call 9 (.cons (.var 1) (.cons (.con (.int 1009)) .nil)) [])) (.cons (.asg (.nm 7) (.call 9 (.cons (.var 1) (.cons (.con (.int 1013)) .nil)) [])) (.cons (.asg (.nm 8) (.lst (.cons (.call 9 (.cons (.var 1) (.cons (.con (.int 6)) .nil)) []) (.cons (.call 9 (.cons (.var 1) (.cons (.con (.int 6)) .nil)) []) .nil)))) (.cons (.asg (.nm 9) (.lst (.cons (.call 17 (.cons (.var 1) .nil) []) (.cons (.call 17 (.cons (.var 1) .nil) []) .nil)))) (.cons (.asg (.nm 10) (.call 11 (.cons (.call 8 (.cons (.var 0) (.cons (.con (.int 1)) .nil)) []) (.cons (.var 3) .nil)) [])) (.cons (.asg (.nm 11) (.call 16 (.cons (.var 10) .nil) [])) (.cons (.ifS (.cmp .lt (.var 2) (.con (.int 4))) (.cons (.asg (.nm 10) (.call 14 (.cons (.var 10) (.cons (.lst (.cons (.bin .mod (.pr .int (.cons (.var 6) .nil)) (.call 13 (.cons (.var 10) .nil) [])) .nil)) (.cons (.var 5) .nil))) [])) .nil) .nil) (.cons (.ifS (.cmp .eq (.var 2) (.con (.int 4))) (.cons (.forS (.nm 12) (.rng1 (.var 4)) (.cons (.asg (.nm 10) (.tup (.cons (.con (.str [43])) (.cons (.var 10) (.cons (.con (.int 1)) .nil))))) .nil)) .nil) .nil) (.cons (.ifS (.or (.cmp .eq (.var 2) (.con (.int 5))) (.cmp .eq (.var 2) (.con (.int 6)))) (.cons (.asg (.nm 11) (.call 18 (.cons (.var 11) (.cons (.idx (.var 8) (.con (.int 0))) (.cons (.var 6) (.cons (.idx (.var 9) (.con (.int 0))) .nil)))) [])) .nil) .nil) (.cons (.ifS (.cmp .eq (.var 2) (.con (.int 6))) (.cons (.asg (.nm 11) (.call 18 (.cons (.var 11) (.cons (.idx (.var 8) (.con (.int 1))) (.cons (.var 7) (.cons (.idx (.var 9) (.con (.int 1))) .nil)))) [])) .nil) .nil) (.cons (.ifS (.cmp .eq (.var 2) (.con (.int 7))) (.cons (.asg (.nm 13) (.idx (.lst (.cons (.var 6) (.cons (.bin .mod (.var 6) (.con (.int 9))) (.cons (.bin .mod (.var 6) (.con (.int 8))) .nil)))) (.bin .mod (.pr .int (.cons (.var 7) .nil)) (.con (.int 3))))) (.cons (.asg (.nm 11) (.bin .add (.bin .add (.bin .mul (.con (.str [40])) (.var 13)) (.con (.str [97]))) (.bin .mul (.con (.str [43, 49, 41])) (.bin .sub (.var 13) (.pr .int (.cons (.cmp .eq (.bin .mod (.var 7) (.con (.int 5))) (.con (.int 4))) .nil)))))) .nil)) .nil) (.cons (.ifS (.cmp .eq (.var 2) (.con (.int 8))) (.cons (.asg (.nm 11) (.bin .add (.bin .mul (.con (.str [40])) (.bin .mul (.con (.int 3)) (.bin .mod (.var 6) (.con (.int 1000))))) (.var 11))) .nil) .nil) (.cons (.ifS (.cmp .eq (.var 2) (.con (.int 9))) (.cons (.asg (.nm 11) (.var 5)) .nil) .nil) (.cons (.ifS (.or (.not (.tv (.call 22 (.cons (.var 10) .nil) []))) (.not (.tv (.call 23 (.cons (.var 11) .nil) [])))) (.cons (.ret (.con (.bl false))) .nil) .nil) (.cons (.ret (.and (.call 23 (.cons (.call 16 (.cons (.call 11 (.cons (.call 8 (.cons (.var 0) (.cons (.con (.int 2)) .nil)) []) (.cons (.var 3) .nil)) []) .nil) []) .nil) []) (.and (.call 22 (.cons (.con (.str [120])) .nil) []) (.call 23 (.cons (.con (.str [40, 97, 43, 48, 41])) .nil) [])))) .nil))))))))))))))))))))
def f_law : Fd := ⟨⟨("law", none), "law", "law", defArgs (top 37), defBody (top 37), defScope (top 37), [], []⟩, ["_law_script", "_law_pool_here", "_law_choice", "_law_depth", "_law_wrap", "_law_odd_here", "_law_first", "_law_second", "_law_kinds", "_law_signs", "_law_thing", "_law_text_here", "_law_turn", "_law_many"], ["_law_script"], ⟨1, 14, b_law⟩, []⟩
abbrev n_law : Nat := 24
def L : Ld where
  fds := ([f_is_integer, f_is_expression, f_written, f_expect, f_parsed, f_expression_of, f_expression_text, f_read_expression, f__law_pool, f__law_draw, f__law_leaf, f__law_tree] : List (Fd)) ++ ([f__law_odd, f__law_nodes, f__law_put, f__law_good, f__law_text, f__law_sign, f__law_change, f__law_read, f__law_same, f__law_asked, f__law_writes, f__law_reads] : List (Fd)) ++ ([f_law] : List (Fd))
  cls := [("PastError", some none), ("NoExpression", some none), ("NoLine", some none), ("NoText", some (some 0))]
  flds := ["line"]
  gls := [("SIGNS", (.tup [(.str [43]), (.str [45]), (.str [42]), (.str [61]), (.str [60])])), ("REGISTERS", (.tup [(.str [97]), (.str [98]), (.str [99]), (.str [100]), (.str [120])])), ("DEEPEST_EXPRESSION", (.int 6)), ("DIGITS", (.tup [(.str [48]), (.str [49]), (.str [50]), (.str [51]), (.str [52]), (.str [53]), (.str [54]), (.str [55]), (.str [56]), (.str [57])]))]
  mts := []
  mks := []
  xis := [(3, ⟨("NoText", some "__init__"), "__init__", "NoText.__init__", defArgs (inn 4 0), defBody (inn 4 0), defScope (inn 4 0), [], []⟩, "self", "line")]
  subs := [(0, 0), (1, 1), (1, 0), (2, 2), (2, 0), (3, 3), (3, 0)]
  xfs := []
  ei := true
  kons := []
theorem stat : L.stat = true := by kernel_rfl
abbrev T : Tab := L.tab
theorem glo_0 : T.glo 0 = some (.tup [(.str [43]), (.str [45]), (.str [42]), (.str [61]), (.str [60])]) := by kernel_rfl
theorem glo_1 : T.glo 1 = some (.tup [(.str [97]), (.str [98]), (.str [99]), (.str [100]), (.str [120])]) := by kernel_rfl
theorem glo_2 : T.glo 2 = some (.int 6) := by kernel_rfl
theorem glo_3 : T.glo 3 = some (.tup [(.str [48]), (.str [49]), (.str [50]), (.str [51]), (.str [52]), (.str [53]), (.str [54]), (.str [55]), (.str [56]), (.str [57])]) := by kernel_rfl
theorem exf_0 : T.exf 0 = some none := by kernel_rfl
theorem exf_1 : T.exf 1 = some none := by kernel_rfl
theorem exf_2 : T.exf 2 = some none := by kernel_rfl
theorem exf_3 : T.exf 3 = some (some 0) := by kernel_rfl
abbrev c_PastError : Nat := 0
abbrev c_NoExpression : Nat := 1
abbrev c_NoLine : Nat := 2
abbrev c_NoText : Nat := 3
abbrev d_line : Nat := 0
end Y.K_k14
set_option Elab.async false
set_option linter.all false
set_option maxRecDepth 100000
set_option maxHeartbeats 0
namespace Y.K_k14
open PySem PySem.Spec PyProof.Rows L2
abbrev R : PySem.W.OpenRow := PySem.W.OpenLaw.row PySem.Challenge.rw_pastless_k14_expressions_as_texts
abbrev hk : PySem.W.Hook := He.hookX 5 [] L.defs L.tabs [] L.facts
def ob (s : PySem.W.SharedT) : He.AlX := He.obsX 5 [] L.defs L.tabs [] L.facts (HandSHeadRun.getT s)
theorem ob_eq (s : PySem.W.SharedT) : ob s = hk.obs s.abs := He.obsX_eq (HandSHeadRun.getT_eq s)
def loose : List Str := (["PastError", "NoExpression", "NoLine", "NoText", "SIGNS", "REGISTERS", "DEEPEST_EXPRESSION", "is_integer", "is_expression", "DIGITS", "written", "expect", "parsed", "expression_of", "expression_text", "read_expression"] : List Str) ++ (["_law_pool", "_law_draw", "_law_leaf", "_law_tree", "_law_odd", "_law_nodes", "_law_put", "_law_good", "_law_text", "_law_sign", "_law_change", "_law_read", "_law_same", "_law_asked", "_law_writes", "_law_reads"] : List Str)
theorem runFA (w : World) : Y.RunA R 20000 (w.withFollow "special-get-raises" false) := by
  intro os
  kernel_rfl
theorem runFB (w : World) : Y.RunB R (PySem.W.view R.prog [37]) 20000 loose (w.withFollow "special-get-raises" false) := by
  intro os
  kernel_rfl
theorem runFC (w : World) : Y.RunC R hk ob 20000 (w.withFollow "special-get-raises" false) := by
  intro os
  kernel_rfl
theorem runTA (w : World) : Y.RunA R 20000 (w.withFollow "special-get-raises" true) := by
  intro os
  kernel_rfl
theorem runTB (w : World) : Y.RunB R (PySem.W.view R.prog [37]) 20000 loose (w.withFollow "special-get-raises" true) := by
  intro os
  kernel_rfl
theorem runTC (w : World) : Y.RunC R hk ob 20000 (w.withFollow "special-get-raises" true) := by
  intro os
  kernel_rfl
theorem run (w : World) : HandSHeadRun.RunEq R (PySem.W.view R.prog [37]) hk ob 20000 loose w :=
  PySem.W.byRow2 "special-get-raises" (P := fun w => HandSHeadRun.RunEq R (PySem.W.view R.prog [37]) hk ob 20000 loose w) (fun w => Y.run_parts (runFA w) (runFB w) (runFC w)) (fun w => Y.run_parts (runTA w) (runTB w) (runTC w)) w
end Y.K_k14
set_option linter.all false
set_option maxHeartbeats 4000000
set_option maxRecDepth 100000
namespace Y.K_k14
open Y PySem
local macro_rules
  | `(tactic| simp! [$ls,*]) => `(tactic| simp (implicitDefEqProofs := false) (dsimp := false) (failIfUnchanged := false) only [lz1, z_ifT, z_ifF, k_c0, k_c1, k_c2, k_c3, k_c4, k_c5, k_c6, k_few0, k_fewS, k_lkm, k_pf0, k_pfh, k_pfm, k_cls, k_clsO, k_oth1, k_oth2, k_oth3, k_oth4, k_oth5, k_oth6, k_oth7, ks_nx, ks_rt, ks_bk, ks_ct, ks_xc, kl_nx, kl_rt, kl_bk, kl_ct, kl_xc, kc_nx, kc_rt, kc_xc, kt_nx, kt_rt, kt_bk, kt_ct, kt_xc, kh_nx, kh_rt, un_n, un_s, isNon_1, isNon_2, isNon_3, isNon_4, isNon_5, isNon_6, isNon_7, boolQ_1, intQ_1, optQ_1, lstQ_1, sqQ_1, sqQ_2, cntQ_1, cntQ_2, cntQ_3, dicQ_1, insQ_1, getIx_0, getIx_1, getIx_2, getIx_3, getIx_4, getIx_5, ixrQ_1, ixrQ_2, ixrQ_3, ixrQ_4, setIx_0, setIx_1, setIx_2, bindQ_nm, bindL_0, bindL_1, bindQ_tp, z_var, z_con, z_glo, z_bin, z_neg, z_cmp, z_chain, z_isN, z_notN, z_and, z_or, z_not, z_ife, z_call, z_make, methQ_1, z_eqo, z_meth, z_fld, z_pr, z_me, z_isi, z_idx, z_sli, z_abs0, z_tup, z_lst, z_dic, z_dcomp, z_fstr, z_rvl, z_efld, z_eisi, z_ei1, z_ei2, z_comp, z_Tcmp, z_Tchain, z_TisN, z_TnotN, z_Tand, z_Tor, z_Tnot, z_Ttv, z_nil, z_cons, z_Fnil, z_Fcons, z_Tsn, z_Ts1, z_rng1, int2Q_1, z_rng2, z_rev, z_enm, z_zip, z_sq, z_Bnil, z_Bcons, z_asg, z_asgt, z_asg2, z_setf, z_seti, augQ_1, augQ_2, z_augn, z_augf, z_exp, z_ret, z_retN, z_if, z_for, z_whl, z_brk, z_cnt, z_pas, z_rais0, z_rais1, z_try, z_Hnil, z_Hcons, v_v0, v_vs, v_add, v_sub, v_mul, v_fdiv, v_tmul, v_smul, v_mod, v_pow, v_sadd, v_tadd, v_ladd, v_lmul, v_int, v_intb, v_abs, v_max2, v_min2, v_stri, v_strs, v_lens, v_lenm, v_len0, v_len1, v_len2, v_len3, v_len4, v_len5, v_len6, v_lenr, v_tupt, v_tupr, v_lstt, v_lstr, v_any, v_all, v_ixt, v_ixr, v_kon, v_seti, strQ_1, strQ_2, strQ_3, v_pts, v_ptn, v_sls, v_slt, v_slr, v_fld, v_setf, v_okl, v_oks, v_app, v_pop, v_dk1, v_dk2, v_get2, v_get1, v_insl, v_revl, v_upr, v_sti, v_sts, v_stc, v_rvl, v_lt, v_le, v_gt, v_ge, v_isb, v_nsb, v_eq, v_deq, v_ne, v_in, v_ni, v_eqii, v_eqss, v_eqbb, v_eqsi, v_eqis, v_eqni, v_eqin, v_eqns, v_eqsn, v_trn, v_trb, v_tri, v_trt, v_trr, v_trs, v_fms, v_fmi, v_inp, inrQ_1, inrQ_2, inrQ_3, v_inl, v_inK, v_ins, t_n, t_b, t_i, t_s, t_t, t_r, tyO_1, tyO_2, tyO_3, tyO_4, y_n, y_b, y_i, y_s, y_t, y_l, y_d, y_o, y_o1, y_o2, y_o3, y_o4, y_o5, y_o6, w_t, w_s, w_r, w_rev, w_e, w_zs, w_zt, List.map_cons, List.map_nil, List.replicate_succ, List.replicate_zero, List.cons_append, List.nil_append, List.append_nil, List.set_cons_zero, List.set_cons_succ, List.any_cons, List.any_nil, List.lookup_cons_self, meT, reduceCtorEq, decide_true, decide_false, Bool.or_false, Bool.false_or, Bool.or_true, Bool.true_or, Bool.not_true, Bool.not_false, Bool.and_true, Bool.true_and, Bool.and_false, Bool.false_and, true_and, and_true, wipeE, Option.isSome_some, Option.isSome_none, List.getElem?_concat_length, Nat.reduceBEq, Int.reduceEq, Int.reduceLT, Int.reduceLE, Int.reduceNeg, glo_0, glo_1, glo_2, glo_3, exf_0, exf_1, exf_2, exf_3, c_PastError, c_NoExpression, c_NoLine, c_NoText, d_line, $ls,*])
local macro_rules
  | `(tactic| simp!) => `(tactic| simp (implicitDefEqProofs := false) (dsimp := false) (failIfUnchanged := false) only [lz1, z_ifT, z_ifF, k_c0, k_c1, k_c2, k_c3, k_c4, k_c5, k_c6, k_few0, k_fewS, k_lkm, k_pf0, k_pfh, k_pfm, k_cls, k_clsO, k_oth1, k_oth2, k_oth3, k_oth4, k_oth5, k_oth6, k_oth7, ks_nx, ks_rt, ks_bk, ks_ct, ks_xc, kl_nx, kl_rt, kl_bk, kl_ct, kl_xc, kc_nx, kc_rt, kc_xc, kt_nx, kt_rt, kt_bk, kt_ct, kt_xc, kh_nx, kh_rt, un_n, un_s, isNon_1, isNon_2, isNon_3, isNon_4, isNon_5, isNon_6, isNon_7, boolQ_1, intQ_1, optQ_1, lstQ_1, sqQ_1, sqQ_2, cntQ_1, cntQ_2, cntQ_3, dicQ_1, insQ_1, getIx_0, getIx_1, getIx_2, getIx_3, getIx_4, getIx_5, ixrQ_1, ixrQ_2, ixrQ_3, ixrQ_4, setIx_0, setIx_1, setIx_2, bindQ_nm, bindL_0, bindL_1, bindQ_tp, z_var, z_con, z_glo, z_bin, z_neg, z_cmp, z_chain, z_isN, z_notN, z_and, z_or, z_not, z_ife, z_call, z_make, methQ_1, z_eqo, z_meth, z_fld, z_pr, z_me, z_isi, z_idx, z_sli, z_abs0, z_tup, z_lst, z_dic, z_dcomp, z_fstr, z_rvl, z_efld, z_eisi, z_ei1, z_ei2, z_comp, z_Tcmp, z_Tchain, z_TisN, z_TnotN, z_Tand, z_Tor, z_Tnot, z_Ttv, z_nil, z_cons, z_Fnil, z_Fcons, z_Tsn, z_Ts1, z_rng1, int2Q_1, z_rng2, z_rev, z_enm, z_zip, z_sq, z_Bnil, z_Bcons, z_asg, z_asgt, z_asg2, z_setf, z_seti, augQ_1, augQ_2, z_augn, z_augf, z_exp, z_ret, z_retN, z_if, z_for, z_whl, z_brk, z_cnt, z_pas, z_rais0, z_rais1, z_try, z_Hnil, z_Hcons, v_v0, v_vs, v_add, v_sub, v_mul, v_fdiv, v_tmul, v_smul, v_mod, v_pow, v_sadd, v_tadd, v_ladd, v_lmul, v_int, v_intb, v_abs, v_max2, v_min2, v_stri, v_strs, v_lens, v_lenm, v_len0, v_len1, v_len2, v_len3, v_len4, v_len5, v_len6, v_lenr, v_tupt, v_tupr, v_lstt, v_lstr, v_any, v_all, v_ixt, v_ixr, v_kon, v_seti, strQ_1, strQ_2, strQ_3, v_pts, v_ptn, v_sls, v_slt, v_slr, v_fld, v_setf, v_okl, v_oks, v_app, v_pop, v_dk1, v_dk2, v_get2, v_get1, v_insl, v_revl, v_upr, v_sti, v_sts, v_stc, v_rvl, v_lt, v_le, v_gt, v_ge, v_isb, v_nsb, v_eq, v_deq, v_ne, v_in, v_ni, v_eqii, v_eqss, v_eqbb, v_eqsi, v_eqis, v_eqni, v_eqin, v_eqns, v_eqsn, v_trn, v_trb, v_tri, v_trt, v_trr, v_trs, v_fms, v_fmi, v_inp, inrQ_1, inrQ_2, inrQ_3, v_inl, v_inK, v_ins, t_n, t_b, t_i, t_s, t_t, t_r, tyO_1, tyO_2, tyO_3, tyO_4, y_n, y_b, y_i, y_s, y_t, y_l, y_d, y_o, y_o1, y_o2, y_o3, y_o4, y_o5, y_o6, w_t, w_s, w_r, w_rev, w_e, w_zs, w_zt, List.map_cons, List.map_nil, List.replicate_succ, List.replicate_zero, List.cons_append, List.nil_append, List.append_nil, List.set_cons_zero, List.set_cons_succ, List.any_cons, List.any_nil, List.lookup_cons_self, meT, reduceCtorEq, decide_true, decide_false, Bool.or_false, Bool.false_or, Bool.or_true, Bool.true_or, Bool.not_true, Bool.not_false, Bool.and_true, Bool.true_and, Bool.and_false, Bool.false_and, true_and, and_true, wipeE, Option.isSome_some, Option.isSome_none, List.getElem?_concat_length, Nat.reduceBEq, Int.reduceEq, Int.reduceLT, Int.reduceLE, Int.reduceNeg, glo_0, glo_1, glo_2, glo_3, exf_0, exf_1, exf_2, exf_3, c_PastError, c_NoExpression, c_NoLine, c_NoText, d_line])
def Pool (h : Nat) (st : Store) : Prop := ∃ c s t : Int, st[h]? = some (.lst [.int c, .int s, .int t]) ∧ 0 ≤ c ∧ 0 ≤ s ∧ s < 2 ^ 40
structure Ch (h : Nat) (st st' : Store) : Prop where
  pool : Pool h st'
  len : st.length ≤ st'.length
  same : ∀ g, g ≠ h → g < st.length → st'[g]? = st[g]?
theorem Pool.lt {h : Nat} {st : Store} (p : Pool h st) : h < st.length := by
  obtain ⟨c, s, t, e, _⟩ := p
  exact lt_of_get e
theorem Pool.app {h : Nat} {st st2 : Store} (p : Pool h st) : Pool h (st ++ st2) := by
  obtain ⟨c, s, t, e, q⟩ := p
  exact ⟨c, s, t, get_app _ e, q⟩
theorem Pool.set {h g : Nat} {o : O} {st : Store} (p : Pool h st) (ne : g ≠ h) : Pool h (st.set g o) := by
  obtain ⟨c, s, t, e, q⟩ := p
  exact ⟨c, s, t, get_set e ne, q⟩
theorem Pool.keep {g : Nat} {a b : Store} (p : Pool g a) (x : Keep a b) : Pool g b := by
  obtain ⟨c, s, t, e, q⟩ := p
  exact ⟨c, s, t, x.get e, q⟩
theorem Ch.refl {h : Nat} {st : Store} (p : Pool h st) : Ch h st st := ⟨p, Nat.le_refl _, fun _ _ _ => rfl⟩
theorem Ch.trans {h : Nat} {a b c : Store} (x : Ch h a b) (y : Ch h b c) : Ch h a c := ⟨y.pool, Nat.le_trans x.len y.len, fun g n l => (y.same g n (Nat.lt_of_lt_of_le l x.len)).trans (x.same g n l)⟩
theorem Ch.app {h : Nat} {a b c : Store} (x : Ch h a b) : Ch h a (b ++ c) := ⟨x.pool.app, by rw [List.length_append]; exact Nat.le_trans x.len (Nat.le_add_right _ _), fun g n l => by rw [List.getElem?_append_left (Nat.lt_of_lt_of_le l x.len)]; exact x.same g n l⟩
theorem Ch.set {h g : Nat} {o : O} {a b : Store} (x : Ch h a b) (ne : g ≠ h) (l : a.length ≤ g) : Ch h a (b.set g o) := ⟨x.pool.set ne, by simpa using x.len, fun k n l2 => by rw [List.getElem?_set_ne (by omega)]; exact x.same k n l2⟩
theorem Ch.keep {h : Nat} {a b c : Store} (x : Ch h a b) (y : Keep b c) : Ch h a c := ⟨x.pool.keep y, Nat.le_trans x.len y.len, fun g n l => (y.same g (Nat.lt_of_lt_of_le l x.len)).trans (x.same g n l)⟩
theorem Ch.get {h g : Nat} {a b : Store} {o : O} (x : Ch h a b) (e : a[g]? = some o) (ne : g ≠ h) : b[g]? = some o := (x.same g ne (lt_of_get e)).trans e
theorem Ch.pool2 {h g : Nat} {a b : Store} (x : Ch h a b) (p : Pool g a) (ne : g ≠ h) : Pool g b := by
  obtain ⟨c, s, t, e, q⟩ := p
  exact ⟨c, s, t, x.get e ne, q⟩
theorem getIx_m {xs : List D} {i : Int} {F : D → Prop} {c : D} (h0 : 0 ≤ i) (e : xs[i.toNat]? = some c) : getIx xs i F = F c := getIx_of (ix_pos h0 (by have := (List.getElem?_eq_some_iff.mp e).1; omega)) e
theorem draw {k h : Nat} {m : Int} {st : Store} {Q : QE} {X : QX} (hm : 0 < m) (hm2 : m < 1073741824) (P : Pool h st) (hq : ∀ (v : Int) (st' : Store), 0 ≤ v → v < m → st'.length = st.length → Ch h st st' → Q (.int v) st') : Call T (k + 1) n__law_draw [.ref h, .int m] st Q X := by
  obtain ⟨c, s, t, e, hc0, hs, hs2⟩ := P
  have l : h < st.length := lt_of_get e
  have up : ∀ (c' s' t' : Int), 0 ≤ c' → 0 ≤ s' → s' < 2 ^ 40 → Ch h st (st.set h (.lst [.int c', .int s', .int t'])) := fun c' s' t' h1 h2 h3 =>
    ⟨⟨c', s', t', List.getElem?_set_self l, h1, h2, h3⟩, by simp, fun g hg _ => List.getElem?_set_ne (Ne.symm hg)⟩
  have g1 : ∀ o : O, (st.set h o)[h]? = some o := fun o => List.getElem?_set_self l
  refine call_z f__law_draw.fn rfl rfl ?_
  show wpB T (Call T k) none b__law_draw [some (.ref h), some (.int m), none, none] st _
  unfold b__law_draw
  simp! [e]
  refine ifd (fun hc => ?_) (fun hc => ?_)
  · simp! [e]
    refine ⟨hm, ?_⟩
    simp! [e]
    refine ⟨⟨hm, hm2⟩, ?_⟩
    simp!
    exact hq _ _ (Int.emod_nonneg _ (by omega)) (Int.emod_lt_of_pos _ hm) (by simp) (up _ _ _ (Int.ediv_nonneg (by omega) (by omega)) hs hs2)
  · simp! [e, g1, List.set_set]
    refine ⟨.inl ⟨by decide, by decide⟩, ⟨.inl ⟨by omega, by omega⟩, ?_⟩⟩
    have n1 := Int.emod_nonneg ((s + 1) * (7919 * (t + 1) + 104729)) (show (2147483647 : Int) ≠ 0 by decide)
    have n2 := Int.emod_lt_of_pos ((s + 1) * (7919 * (t + 1) + 104729)) (show (0 : Int) < 2147483647 by decide)
    simp!
    generalize (s + 1) * (7919 * (t + 1) + 104729) % 2147483647 = a at n1 n2 ⊢
    refine ⟨.inl ⟨by omega, by omega⟩, ?_⟩
    have n3 := Int.emod_nonneg (a * (a / 1009 + 69621)) (show (2147483647 : Int) ≠ 0 by decide)
    have n4 := Int.emod_lt_of_pos (a * (a / 1009 + 69621)) (show (0 : Int) < 2147483647 by decide)
    simp!
    generalize a * (a / 1009 + 69621) % 2147483647 = b at n3 n4 ⊢
    refine ⟨.inl ⟨by omega, by omega⟩, ?_⟩
    have n5 := Int.emod_nonneg (b * (b / 2003 + 40692)) (show (2147483399 : Int) ≠ 0 by decide)
    simp!
    generalize b * (b / 2003 + 40692) % 2147483399 = c2 at n5 ⊢
    refine ⟨hm, ?_⟩
    simp!
    exact hq _ _ (Int.emod_nonneg _ (by omega)) (Int.emod_lt_of_pos _ hm) (by simp) (up _ _ _ hc0 hs hs2)
theorem pool {k : Nat} {i : Int} {ns : List Int} {st : Store} {Q : QE} {X : QX} (h0 : st[0]? = some (.fro (ns.map D.int))) (hl : ns.length ≤ 63) (hi : 0 ≤ i ∧ i ≤ 1000) (hq : ∀ st', Pool st.length (st ++ [st']) → Q (.ref st.length) (st ++ [st'])) : Call T (k + 1) n__law_pool [.ref 0, .int i] st Q X := by
  refine call_z f__law_pool.fn rfl rfl ?_
  show wpB T (Call T k) none b__law_pool [some (.ref 0), some (.int i), none, none] st _
  unfold b__law_pool
  have mk : ∀ c s : Int, 0 ≤ c → 0 ≤ s → s < 2 ^ 40 → Q (.ref st.length) (st ++ [.lst [.int c, .int s, .int 0]]) := fun c s h1 h2 h3 => hq _ ⟨c, s, 0, get_snoc _ _, h1, h2, h3⟩
  simp! [h0]
  refine ifd (fun hc => ?_) (fun hc => ?_)
  · simp!
    refine ⟨.inl ⟨by decide, by decide⟩, ?_⟩
    simp!
    exact mk _ _ (by omega) (by omega) (by omega)
  · have hn : 0 < ((ns.map D.int).length : Int) := by
      have : (ns.map D.int).length ≠ 0 := fun z => hc (by rw [z]; rfl)
      omega
    have im := Int.emod_lt_of_pos i hn
    have im0 := Int.emod_nonneg i (show ((ns.map D.int).length : Int) ≠ 0 by omega)
    have jl : (i % ((ns.map D.int).length : Int)).toNat < ns.length := by
      have : ((ns.map D.int).length : Int) = ns.length := by rw [List.length_map]
      omega
    have look : ∀ {F : D → Prop}, getIx (ns.map D.int) (i % ((ns.map D.int).length : Int)) F = F (.int ns[(i % ((ns.map D.int).length : Int)).toNat]) := fun {F} => getIx_m im0 (by rw [List.getElem?_map, List.getElem?_eq_getElem jl]; rfl)
    simp! [h0]
    refine ⟨hn, ?_⟩
    rw [look]
    simp! [h0]
    refine ⟨.inl ⟨by decide, by decide⟩, hn, ?_⟩
    rw [look]
    simp! [h0]
    generalize ns[(i % ((ns.map D.int).length : Int)).toNat] = v
    have c0 : 0 ≤ (if v < 0 then -v else v) := by split <;> omega
    generalize (if v < 0 then -v else v) = cell at c0 ⊢
    have s0 := Int.emod_nonneg cell (show (2147483629 : Int) ≠ 0 by decide)
    have s1 := Int.emod_lt_of_pos cell (show (0 : Int) < 2147483629 by decide)
    have b0 : 0 ≤ (if decide (v < 0) = true then (1 : Int) else 0) ∧ (if decide (v < 0) = true then (1 : Int) else 0) ≤ 1 := by split <;> decide
    generalize (if decide (v < 0) = true then (1 : Int) else 0) = bb at b0 ⊢
    generalize cell % 2147483629 = sd at s0 s1 ⊢
    refine ifd (fun _ => ?_) (fun _ => ?_)
    · simp!
      refine ⟨by decide, ?_⟩
      simp!
      refine ifd (fun _ => ?_) (fun _ => ?_)
      · simp!
        exact mk _ _ c0 (by omega) (by omega)
      · simp!
        exact mk _ _ (by decide) (by omega) (by omega)
    · simp!
      exact mk _ _ (by decide) (by omega) (by omega)
theorem gen {v h n : Nat} {elt : Env → Store → QE → Prop} {tests : Env → Store → (Bool → Store → Prop) → Prop} {env : Env} {st : Store} {Q : QE} (R : D → Prop) (hn : n ≤ 1000) (p : Pool h st)
    (ht : ∀ e s P, P true s → tests e s P)
    (turn : ∀ (e : Env) (i : Nat) (s : Store) (Q' : QE), i < n → e = env.set v (some (.int i)) → Ch h st s → (∀ d s', R d → Ch h s s' → Q' d s') → elt e s Q')
    (done : ∀ ds s, ds.length = n → (∀ d ∈ ds, R d) → s[st.length]? = some (.lst ds) → Ch h st s → Q (.ref st.length) s) :
    ∃ m, cmpN (.seq (rngD 0 n)) (.nm v) tests elt st.length Q m 0 env (st ++ [.lst []]) := by
  rw [rngD_rg]
  have ne : st.length ≠ h := Nat.ne_of_gt p.lt
  refine cmp_s (fun r acc s => ∃ i m, i + m = n ∧ r = rg i m ∧ acc.length = i ∧ (∀ d ∈ acc, R d) ∧ s[st.length]? = some (.lst acc) ∧ Ch h st s) ⟨0, n, by omega, rfl, rfl, fun _ m => (by cases m), get_snoc _ _, (Ch.refl p).app⟩ (fun d r acc s N ⟨i, m, e1, e2, e3, e4, e5, e6⟩ hN => ?_) (fun acc s ⟨i, m, e1, e2, e3, e4, e5, e6⟩ => ?_)
  · cases m with
    | zero => cases e2
    | succ m =>
      rw [rg_succ] at e2
      cases e2
      refine ht _ _ _ ?_
      simp!
      refine turn _ i s _ (by omega) rfl e6 fun d s' r c => ?_
      simp! [c.get e5 ne]
      refine ⟨lt_line (by omega), hN _ _ ⟨i + 1, m, by omega, rfl, by simp [e3], fun x hx => ?_, set_get (c.get e5 ne), (e6.trans c).set ne (Nat.le_refl _)⟩⟩
      rcases List.mem_append.mp hx with z | z
      · exact e4 x z
      · rw [List.mem_singleton.mp z]
        exact r
  · cases m with
    | succ m => rw [rg_succ] at e2; cases e2
    | zero => exact done acc s (by omega) e4 e5 e6
theorem sign_of {T : Tab} {z : List Nat} {i : Int} {st : Store} {Q : QE} (h0 : 0 ≤ i) (h1 : i < z.length) (hz : z.length ≤ 1000) (h : ∀ c ∈ z, Q (.str [c]) st) : idxQ T st (.str z) (.int i) Q :=
  go_is (le_line (by omega)) (ix_pos h0 h1) (c := z[i.toNat]'(by omega)) (List.getElem?_eq_getElem (by omega)) (h _ (List.getElem_mem _))
end Y.K_k14
set_option linter.all false
set_option maxHeartbeats 4000000
set_option maxRecDepth 100000
namespace Y.K_k14
open Y PySem
local macro_rules
  | `(tactic| simp! [$ls,*]) => `(tactic| simp (implicitDefEqProofs := false) (dsimp := false) (failIfUnchanged := false) only [lz1, z_ifT, z_ifF, k_c0, k_c1, k_c2, k_c3, k_c4, k_c5, k_c6, k_few0, k_fewS, k_lkm, k_pf0, k_pfh, k_pfm, k_cls, k_clsO, k_oth1, k_oth2, k_oth3, k_oth4, k_oth5, k_oth6, k_oth7, ks_nx, ks_rt, ks_bk, ks_ct, ks_xc, kl_nx, kl_rt, kl_bk, kl_ct, kl_xc, kc_nx, kc_rt, kc_xc, kt_nx, kt_rt, kt_bk, kt_ct, kt_xc, kh_nx, kh_rt, un_n, un_s, isNon_1, isNon_2, isNon_3, isNon_4, isNon_5, isNon_6, isNon_7, boolQ_1, intQ_1, optQ_1, lstQ_1, sqQ_1, sqQ_2, cntQ_1, cntQ_2, cntQ_3, dicQ_1, insQ_1, getIx_0, getIx_1, getIx_2, getIx_3, getIx_4, getIx_5, ixrQ_1, ixrQ_2, ixrQ_3, ixrQ_4, setIx_0, setIx_1, setIx_2, bindQ_nm, bindL_0, bindL_1, bindQ_tp, z_var, z_con, z_glo, z_bin, z_neg, z_cmp, z_chain, z_isN, z_notN, z_and, z_or, z_not, z_ife, z_call, z_make, methQ_1, z_eqo, z_meth, z_fld, z_pr, z_me, z_isi, z_idx, z_sli, z_abs0, z_tup, z_lst, z_dic, z_dcomp, z_fstr, z_rvl, z_efld, z_eisi, z_ei1, z_ei2, z_comp, z_Tcmp, z_Tchain, z_TisN, z_TnotN, z_Tand, z_Tor, z_Tnot, z_Ttv, z_nil, z_cons, z_Fnil, z_Fcons, z_Tsn, z_Ts1, z_rng1, int2Q_1, z_rng2, z_rev, z_enm, z_zip, z_sq, z_Bnil, z_Bcons, z_asg, z_asgt, z_asg2, z_setf, z_seti, augQ_1, augQ_2, z_augn, z_augf, z_exp, z_ret, z_retN, z_if, z_for, z_whl, z_brk, z_cnt, z_pas, z_rais0, z_rais1, z_try, z_Hnil, z_Hcons, v_v0, v_vs, v_add, v_sub, v_mul, v_fdiv, v_tmul, v_smul, v_mod, v_pow, v_sadd, v_tadd, v_ladd, v_lmul, v_int, v_intb, v_abs, v_max2, v_min2, v_stri, v_strs, v_lens, v_lenm, v_len0, v_len1, v_len2, v_len3, v_len4, v_len5, v_len6, v_lenr, v_tupt, v_tupr, v_lstt, v_lstr, v_any, v_all, v_ixt, v_ixr, v_kon, v_seti, strQ_1, strQ_2, strQ_3, v_pts, v_ptn, v_sls, v_slt, v_slr, v_fld, v_setf, v_okl, v_oks, v_app, v_pop, v_dk1, v_dk2, v_get2, v_get1, v_insl, v_revl, v_upr, v_sti, v_sts, v_stc, v_rvl, v_lt, v_le, v_gt, v_ge, v_isb, v_nsb, v_eq, v_deq, v_ne, v_in, v_ni, v_eqii, v_eqss, v_eqbb, v_eqsi, v_eqis, v_eqni, v_eqin, v_eqns, v_eqsn, v_trn, v_trb, v_tri, v_trt, v_trr, v_trs, v_fms, v_fmi, v_inp, inrQ_1, inrQ_2, inrQ_3, v_inl, v_inK, v_ins, t_n, t_b, t_i, t_s, t_t, t_r, tyO_1, tyO_2, tyO_3, tyO_4, y_n, y_b, y_i, y_s, y_t, y_l, y_d, y_o, y_o1, y_o2, y_o3, y_o4, y_o5, y_o6, w_t, w_s, w_r, w_rev, w_e, w_zs, w_zt, List.map_cons, List.map_nil, List.replicate_succ, List.replicate_zero, List.cons_append, List.nil_append, List.append_nil, List.set_cons_zero, List.set_cons_succ, List.any_cons, List.any_nil, List.lookup_cons_self, meT, reduceCtorEq, decide_true, decide_false, Bool.or_false, Bool.false_or, Bool.or_true, Bool.true_or, Bool.not_true, Bool.not_false, Bool.and_true, Bool.true_and, Bool.and_false, Bool.false_and, true_and, and_true, wipeE, Option.isSome_some, Option.isSome_none, List.getElem?_concat_length, Nat.reduceBEq, Int.reduceEq, Int.reduceLT, Int.reduceLE, Int.reduceNeg, glo_0, glo_1, glo_2, glo_3, exf_0, exf_1, exf_2, exf_3, c_PastError, c_NoExpression, c_NoLine, c_NoText, d_line, $ls,*])
local macro_rules
  | `(tactic| simp!) => `(tactic| simp (implicitDefEqProofs := false) (dsimp := false) (failIfUnchanged := false) only [lz1, z_ifT, z_ifF, k_c0, k_c1, k_c2, k_c3, k_c4, k_c5, k_c6, k_few0, k_fewS, k_lkm, k_pf0, k_pfh, k_pfm, k_cls, k_clsO, k_oth1, k_oth2, k_oth3, k_oth4, k_oth5, k_oth6, k_oth7, ks_nx, ks_rt, ks_bk, ks_ct, ks_xc, kl_nx, kl_rt, kl_bk, kl_ct, kl_xc, kc_nx, kc_rt, kc_xc, kt_nx, kt_rt, kt_bk, kt_ct, kt_xc, kh_nx, kh_rt, un_n, un_s, isNon_1, isNon_2, isNon_3, isNon_4, isNon_5, isNon_6, isNon_7, boolQ_1, intQ_1, optQ_1, lstQ_1, sqQ_1, sqQ_2, cntQ_1, cntQ_2, cntQ_3, dicQ_1, insQ_1, getIx_0, getIx_1, getIx_2, getIx_3, getIx_4, getIx_5, ixrQ_1, ixrQ_2, ixrQ_3, ixrQ_4, setIx_0, setIx_1, setIx_2, bindQ_nm, bindL_0, bindL_1, bindQ_tp, z_var, z_con, z_glo, z_bin, z_neg, z_cmp, z_chain, z_isN, z_notN, z_and, z_or, z_not, z_ife, z_call, z_make, methQ_1, z_eqo, z_meth, z_fld, z_pr, z_me, z_isi, z_idx, z_sli, z_abs0, z_tup, z_lst, z_dic, z_dcomp, z_fstr, z_rvl, z_efld, z_eisi, z_ei1, z_ei2, z_comp, z_Tcmp, z_Tchain, z_TisN, z_TnotN, z_Tand, z_Tor, z_Tnot, z_Ttv, z_nil, z_cons, z_Fnil, z_Fcons, z_Tsn, z_Ts1, z_rng1, int2Q_1, z_rng2, z_rev, z_enm, z_zip, z_sq, z_Bnil, z_Bcons, z_asg, z_asgt, z_asg2, z_setf, z_seti, augQ_1, augQ_2, z_augn, z_augf, z_exp, z_ret, z_retN, z_if, z_for, z_whl, z_brk, z_cnt, z_pas, z_rais0, z_rais1, z_try, z_Hnil, z_Hcons, v_v0, v_vs, v_add, v_sub, v_mul, v_fdiv, v_tmul, v_smul, v_mod, v_pow, v_sadd, v_tadd, v_ladd, v_lmul, v_int, v_intb, v_abs, v_max2, v_min2, v_stri, v_strs, v_lens, v_lenm, v_len0, v_len1, v_len2, v_len3, v_len4, v_len5, v_len6, v_lenr, v_tupt, v_tupr, v_lstt, v_lstr, v_any, v_all, v_ixt, v_ixr, v_kon, v_seti, strQ_1, strQ_2, strQ_3, v_pts, v_ptn, v_sls, v_slt, v_slr, v_fld, v_setf, v_okl, v_oks, v_app, v_pop, v_dk1, v_dk2, v_get2, v_get1, v_insl, v_revl, v_upr, v_sti, v_sts, v_stc, v_rvl, v_lt, v_le, v_gt, v_ge, v_isb, v_nsb, v_eq, v_deq, v_ne, v_in, v_ni, v_eqii, v_eqss, v_eqbb, v_eqsi, v_eqis, v_eqni, v_eqin, v_eqns, v_eqsn, v_trn, v_trb, v_tri, v_trt, v_trr, v_trs, v_fms, v_fmi, v_inp, inrQ_1, inrQ_2, inrQ_3, v_inl, v_inK, v_ins, t_n, t_b, t_i, t_s, t_t, t_r, tyO_1, tyO_2, tyO_3, tyO_4, y_n, y_b, y_i, y_s, y_t, y_l, y_d, y_o, y_o1, y_o2, y_o3, y_o4, y_o5, y_o6, w_t, w_s, w_r, w_rev, w_e, w_zs, w_zt, List.map_cons, List.map_nil, List.replicate_succ, List.replicate_zero, List.cons_append, List.nil_append, List.append_nil, List.set_cons_zero, List.set_cons_succ, List.any_cons, List.any_nil, List.lookup_cons_self, meT, reduceCtorEq, decide_true, decide_false, Bool.or_false, Bool.false_or, Bool.or_true, Bool.true_or, Bool.not_true, Bool.not_false, Bool.and_true, Bool.true_and, Bool.and_false, Bool.false_and, true_and, and_true, wipeE, Option.isSome_some, Option.isSome_none, List.getElem?_concat_length, Nat.reduceBEq, Int.reduceEq, Int.reduceLT, Int.reduceLE, Int.reduceNeg, glo_0, glo_1, glo_2, glo_3, exf_0, exf_1, exf_2, exf_3, c_PastError, c_NoExpression, c_NoLine, c_NoText, d_line])
def az : List Nat := [97, 98, 99, 100, 101, 102, 103, 104, 105, 106, 107, 108, 109, 110, 111, 112, 113, 114, 115, 116, 117, 118, 119, 120, 121, 122]
structure IsName (x : List Nat) : Prop where
  lo : 1 ≤ x.length
  hi : x.length ≤ 8
  az : ∀ c ∈ x, c ∈ K_k14.az
theorem IsName.fits {x : List Nat} (h : IsName x) : x.length ≤ line := le_line (Nat.le_trans h.hi (by decide))
theorem inLetters : ∀ c ∈ az, (!(Builtin.Str.occurrences ⟨az.toArray⟩ ⟨[c].toArray⟩ 0 az.length 1).isEmpty) = true := by decide +kernel
theorem isint {k : Nat} {n : Int} {st : Store} {Q : QE} {X : QX} (hq : Q (.bl true) st) : Call T (k + 1) n_is_integer [.int n] st Q X := by
  refine call_z f_is_integer.fn rfl rfl ?_
  show wpB T (Call T k) none b_is_integer [some (.int n)] st _
  unfold b_is_integer
  simp!
  exact hq
inductive Ex where
  | num (i : Int) | reg (c : Nat) | op (s : Nat) (a b : Ex)
def Ex.d : Ex → D
  | .num i => .int i
  | .reg c => .str [c]
  | .op s a b => .tup [.str [s], a.d, b.d]
def signs : List Nat := [43, 45, 42, 61, 60]
def regs : List Nat := [97, 98, 99, 100, 120]
def Ex.ok : Nat → Ex → Prop
  | _, .num i => 0 ≤ i ∧ i ≤ 9
  | _, .reg c => c ∈ regs
  | 0, .op _ _ _ => False
  | n + 1, .op s a b => s ∈ signs ∧ Ex.ok n a ∧ Ex.ok n b
theorem Ex.ok_mono : ∀ {n m : Nat} {e : Ex}, n ≤ m → e.ok n → e.ok m
  | n, m, .num i, _, h => by cases n <;> cases m <;> exact h
  | n, m, .reg c, _, h => by cases n <;> cases m <;> exact h
  | 0, m, .op _ _ _, _, h => by cases h
  | n + 1, 0, .op _ _ _, l, h => by omega
  | n + 1, m + 1, .op s a b, l, h => ⟨h.1, Ex.ok_mono (by omega) h.2.1, Ex.ok_mono (by omega) h.2.2⟩
structure Rg where
  a : Int
  b : Int
  c : Int
  d : Int
  x : Int
def Rg.get (r : Rg) (k : Nat) : Int := if k = 97 then r.a else if k = 98 then r.b else if k = 99 then r.c else if k = 100 then r.d else r.x
def Rg.put (r : Rg) (k : Nat) (v : Int) : Rg := if k = 97 then { r with a := v } else if k = 98 then { r with b := v } else if k = 99 then { r with c := v } else if k = 100 then { r with d := v } else { r with x := v }
structure Rg.ok (r : Rg) : Prop where
  a : 0 ≤ r.a ∧ r.a ≤ 9
  b : 0 ≤ r.b ∧ r.b ≤ 9
  c : 0 ≤ r.c ∧ r.c ≤ 9
  d : 0 ≤ r.d ∧ r.d ≤ 9
  x : 0 ≤ r.x ∧ r.x ≤ 9
theorem Rg.get_ok {r : Rg} (h : r.ok) (k : Nat) : 0 ≤ r.get k ∧ r.get k ≤ 9 := by
  have := h.a; have := h.b; have := h.c; have := h.d; have := h.x
  unfold Rg.get
  split
  · omega
  · split
    · omega
    · split
      · omega
      · split <;> omega
theorem Rg.put_ok {r : Rg} (h : r.ok) (k : Nat) {v : Int} (hv : 0 ≤ v ∧ v ≤ 9) : (r.put k v).ok := by
  obtain ⟨h1, h2, h3, h4, h5⟩ := h
  unfold Rg.put
  split
  · exact ⟨hv, h2, h3, h4, h5⟩
  · split
    · exact ⟨h1, hv, h3, h4, h5⟩
    · split
      · exact ⟨h1, h2, hv, h4, h5⟩
      · split
        · exact ⟨h1, h2, h3, hv, h5⟩
        · exact ⟨h1, h2, h3, h4, hv⟩
def Rg.dc (r : Rg) : List (D × D) := [(.str [97], .int r.a), (.str [98], .int r.b), (.str [99], .int r.c), (.str [100], .int r.d), (.str [120], .int r.x)]
theorem regs_cases {k : Nat} (h : k ∈ regs) : k = 97 ∨ k = 98 ∨ k = 99 ∨ k = 100 ∨ k = 120 := by simpa [regs] using h
theorem Rg.getK {r : Rg} {k : Nat} (h : k ∈ regs) : Y.getK r.dc (.str [k]) = some (.int (r.get k)) := by
  rcases regs_cases h with e | e | e | e | e <;> subst e <;> simp [Y.getK, Rg.dc, Rg.get]
theorem Rg.putK {r : Rg} {k : Nat} {v : Int} (h : k ∈ regs) : Y.putK r.dc (.str [k]) (.int v) = (r.put k v).dc := by
  unfold Y.putK
  rw [Rg.getK h]
  rcases regs_cases h with e | e | e | e | e <;> subst e <;> simp [Rg.dc, Rg.put]
def opv (s : Nat) (x y : Int) : Int := if s = 43 then (x + y) % 10 else if s = 45 then (x - y) % 10 else if s = 42 then (x * y) % 10 else if s = 61 then (if x = y then 1 else 0) else (if x < y then 1 else 0)
theorem opv_ok (s : Nat) (x y : Int) : 0 ≤ opv s x y ∧ opv s x y ≤ 9 := by
  unfold opv
  split
  · omega
  · split
    · omega
    · split
      · omega
      · split <;> split <;> omega
def Ex.val (r : Rg) : Ex → Int
  | .num i => i
  | .reg c => r.get c
  | .op s a b => opv s (a.val r) (b.val r)
theorem Ex.val_ok {r : Rg} (hr : r.ok) : ∀ {n : Nat} {e : Ex}, e.ok n → 0 ≤ e.val r ∧ e.val r ≤ 9
  | n, .num i, h => by cases n <;> exact h
  | n, .reg c, h => Rg.get_ok hr c
  | n, .op s a b, h => opv_ok _ _ _
theorem inRegs : ∀ c ∈ regs, inD (.str [c]) [.str [97], .str [98], .str [99], .str [100], .str [120]] = true := by decide +kernel
theorem inSigns : ∀ c ∈ signs, inD (.str [c]) [.str [43], .str [45], .str [42], .str [61], .str [60]] = true := by decide +kernel
theorem isexpr : ∀ (n : Nat) (e : Ex), e.ok n → ∀ (k : Nat) (m : Int) (st : Store) (Q : QE) (X : QX), m = n → Q (.bl true) st → Call T (k + n + 2) n_is_expression [e.d, .int m] st Q X := by
  intro n
  induction n with
  | zero =>
    intro e he k m st Q X hm hq
    refine call_z f_is_expression.fn rfl rfl ?_
    show wpB T (Call T (k + 1)) none b_is_expression [some e.d, some (.int m)] st _
    unfold b_is_expression
    cases e with
    | num i =>
      have h0 : decide (0 ≤ i) = true := decide_eq_true he.1
      have h9 : decide (i ≤ 9) = true := decide_eq_true he.2
      simp! [Ex.d]
      refine isint ?_
      simp! [h0, h9]
      exact hq
    | reg c =>
      simp! [Ex.d]
      refine ⟨rfl, rfl, ?_⟩
      simp! [inRegs c he]
      exact hq
    | op s a b => cases he
  | succ n ih =>
    intro e he k m st Q X hm hq
    refine call_z f_is_expression.fn rfl rfl ?_
    show wpB T (Call T (k + n + 2)) none b_is_expression [some e.d, some (.int m)] st _
    unfold b_is_expression
    cases e with
    | num i =>
      have h0 : decide (0 ≤ i) = true := decide_eq_true he.1
      have h9 : decide (i ≤ 9) = true := decide_eq_true he.2
      simp! [Ex.d]
      refine isint ?_
      simp! [h0, h9]
      exact hq
    | reg c =>
      simp! [Ex.d]
      refine ⟨rfl, rfl, ?_⟩
      simp! [inRegs c he]
      exact hq
    | op s a b =>
      have m0 : decide (m = 0) = false := decide_eq_false (by omega)
      simp! [Ex.d, m0]
      refine ⟨rfl, rfl, ?_⟩
      simp! [inSigns s he.1]
      refine ih a he.2.1 k _ st _ X (by omega) ?_
      simp!
      refine ih b he.2.2 k _ st _ X (by omega) ?_
      simp!
      exact hq
end Y.K_k14
set_option linter.all false
set_option maxHeartbeats 4000000
set_option maxRecDepth 100000
namespace Y.K_k14
open Y PySem
local macro_rules
  | `(tactic| simp! [$ls,*]) => `(tactic| simp (implicitDefEqProofs := false) (dsimp := false) (failIfUnchanged := false) only [lz1, z_ifT, z_ifF, k_c0, k_c1, k_c2, k_c3, k_c4, k_c5, k_c6, k_few0, k_fewS, k_lkm, k_pf0, k_pfh, k_pfm, k_cls, k_clsO, k_oth1, k_oth2, k_oth3, k_oth4, k_oth5, k_oth6, k_oth7, ks_nx, ks_rt, ks_bk, ks_ct, ks_xc, kl_nx, kl_rt, kl_bk, kl_ct, kl_xc, kc_nx, kc_rt, kc_xc, kt_nx, kt_rt, kt_bk, kt_ct, kt_xc, kh_nx, kh_rt, un_n, un_s, isNon_1, isNon_2, isNon_3, isNon_4, isNon_5, isNon_6, isNon_7, boolQ_1, intQ_1, optQ_1, lstQ_1, sqQ_1, sqQ_2, cntQ_1, cntQ_2, cntQ_3, dicQ_1, insQ_1, getIx_0, getIx_1, getIx_2, getIx_3, getIx_4, getIx_5, ixrQ_1, ixrQ_2, ixrQ_3, ixrQ_4, setIx_0, setIx_1, setIx_2, bindQ_nm, bindL_0, bindL_1, bindQ_tp, z_var, z_con, z_glo, z_bin, z_neg, z_cmp, z_chain, z_isN, z_notN, z_and, z_or, z_not, z_ife, z_call, z_make, methQ_1, z_eqo, z_meth, z_fld, z_pr, z_me, z_isi, z_idx, z_sli, z_abs0, z_tup, z_lst, z_dic, z_dcomp, z_fstr, z_rvl, z_efld, z_eisi, z_ei1, z_ei2, z_comp, z_Tcmp, z_Tchain, z_TisN, z_TnotN, z_Tand, z_Tor, z_Tnot, z_Ttv, z_nil, z_cons, z_Fnil, z_Fcons, z_Tsn, z_Ts1, z_rng1, int2Q_1, z_rng2, z_rev, z_enm, z_zip, z_sq, z_Bnil, z_Bcons, z_asg, z_asgt, z_asg2, z_setf, z_seti, augQ_1, augQ_2, z_augn, z_augf, z_exp, z_ret, z_retN, z_if, z_for, z_whl, z_brk, z_cnt, z_pas, z_rais0, z_rais1, z_try, z_Hnil, z_Hcons, v_v0, v_vs, v_add, v_sub, v_mul, v_fdiv, v_tmul, v_smul, v_mod, v_pow, v_sadd, v_tadd, v_ladd, v_lmul, v_int, v_intb, v_abs, v_max2, v_min2, v_stri, v_strs, v_lens, v_lenm, v_len0, v_len1, v_len2, v_len3, v_len4, v_len5, v_len6, v_lenr, v_tupt, v_tupr, v_lstt, v_lstr, v_any, v_all, v_ixt, v_ixr, v_kon, v_seti, strQ_1, strQ_2, strQ_3, v_pts, v_ptn, v_sls, v_slt, v_slr, v_fld, v_setf, v_okl, v_oks, v_app, v_pop, v_dk1, v_dk2, v_get2, v_get1, v_insl, v_revl, v_upr, v_sti, v_sts, v_stc, v_rvl, v_lt, v_le, v_gt, v_ge, v_isb, v_nsb, v_eq, v_deq, v_ne, v_in, v_ni, v_eqii, v_eqss, v_eqbb, v_eqsi, v_eqis, v_eqni, v_eqin, v_eqns, v_eqsn, v_trn, v_trb, v_tri, v_trt, v_trr, v_trs, v_fms, v_fmi, v_inp, inrQ_1, inrQ_2, inrQ_3, v_inl, v_inK, v_ins, t_n, t_b, t_i, t_s, t_t, t_r, tyO_1, tyO_2, tyO_3, tyO_4, y_n, y_b, y_i, y_s, y_t, y_l, y_d, y_o, y_o1, y_o2, y_o3, y_o4, y_o5, y_o6, w_t, w_s, w_r, w_rev, w_e, w_zs, w_zt, List.map_cons, List.map_nil, List.replicate_succ, List.replicate_zero, List.cons_append, List.nil_append, List.append_nil, List.set_cons_zero, List.set_cons_succ, List.any_cons, List.any_nil, List.lookup_cons_self, meT, reduceCtorEq, decide_true, decide_false, Bool.or_false, Bool.false_or, Bool.or_true, Bool.true_or, Bool.not_true, Bool.not_false, Bool.and_true, Bool.true_and, Bool.and_false, Bool.false_and, true_and, and_true, wipeE, Option.isSome_some, Option.isSome_none, List.getElem?_concat_length, Nat.reduceBEq, Int.reduceEq, Int.reduceLT, Int.reduceLE, Int.reduceNeg, glo_0, glo_1, glo_2, glo_3, exf_0, exf_1, exf_2, exf_3, c_PastError, c_NoExpression, c_NoLine, c_NoText, d_line, $ls,*])
local macro_rules
  | `(tactic| simp!) => `(tactic| simp (implicitDefEqProofs := false) (dsimp := false) (failIfUnchanged := false) only [lz1, z_ifT, z_ifF, k_c0, k_c1, k_c2, k_c3, k_c4, k_c5, k_c6, k_few0, k_fewS, k_lkm, k_pf0, k_pfh, k_pfm, k_cls, k_clsO, k_oth1, k_oth2, k_oth3, k_oth4, k_oth5, k_oth6, k_oth7, ks_nx, ks_rt, ks_bk, ks_ct, ks_xc, kl_nx, kl_rt, kl_bk, kl_ct, kl_xc, kc_nx, kc_rt, kc_xc, kt_nx, kt_rt, kt_bk, kt_ct, kt_xc, kh_nx, kh_rt, un_n, un_s, isNon_1, isNon_2, isNon_3, isNon_4, isNon_5, isNon_6, isNon_7, boolQ_1, intQ_1, optQ_1, lstQ_1, sqQ_1, sqQ_2, cntQ_1, cntQ_2, cntQ_3, dicQ_1, insQ_1, getIx_0, getIx_1, getIx_2, getIx_3, getIx_4, getIx_5, ixrQ_1, ixrQ_2, ixrQ_3, ixrQ_4, setIx_0, setIx_1, setIx_2, bindQ_nm, bindL_0, bindL_1, bindQ_tp, z_var, z_con, z_glo, z_bin, z_neg, z_cmp, z_chain, z_isN, z_notN, z_and, z_or, z_not, z_ife, z_call, z_make, methQ_1, z_eqo, z_meth, z_fld, z_pr, z_me, z_isi, z_idx, z_sli, z_abs0, z_tup, z_lst, z_dic, z_dcomp, z_fstr, z_rvl, z_efld, z_eisi, z_ei1, z_ei2, z_comp, z_Tcmp, z_Tchain, z_TisN, z_TnotN, z_Tand, z_Tor, z_Tnot, z_Ttv, z_nil, z_cons, z_Fnil, z_Fcons, z_Tsn, z_Ts1, z_rng1, int2Q_1, z_rng2, z_rev, z_enm, z_zip, z_sq, z_Bnil, z_Bcons, z_asg, z_asgt, z_asg2, z_setf, z_seti, augQ_1, augQ_2, z_augn, z_augf, z_exp, z_ret, z_retN, z_if, z_for, z_whl, z_brk, z_cnt, z_pas, z_rais0, z_rais1, z_try, z_Hnil, z_Hcons, v_v0, v_vs, v_add, v_sub, v_mul, v_fdiv, v_tmul, v_smul, v_mod, v_pow, v_sadd, v_tadd, v_ladd, v_lmul, v_int, v_intb, v_abs, v_max2, v_min2, v_stri, v_strs, v_lens, v_lenm, v_len0, v_len1, v_len2, v_len3, v_len4, v_len5, v_len6, v_lenr, v_tupt, v_tupr, v_lstt, v_lstr, v_any, v_all, v_ixt, v_ixr, v_kon, v_seti, strQ_1, strQ_2, strQ_3, v_pts, v_ptn, v_sls, v_slt, v_slr, v_fld, v_setf, v_okl, v_oks, v_app, v_pop, v_dk1, v_dk2, v_get2, v_get1, v_insl, v_revl, v_upr, v_sti, v_sts, v_stc, v_rvl, v_lt, v_le, v_gt, v_ge, v_isb, v_nsb, v_eq, v_deq, v_ne, v_in, v_ni, v_eqii, v_eqss, v_eqbb, v_eqsi, v_eqis, v_eqni, v_eqin, v_eqns, v_eqsn, v_trn, v_trb, v_tri, v_trt, v_trr, v_trs, v_fms, v_fmi, v_inp, inrQ_1, inrQ_2, inrQ_3, v_inl, v_inK, v_ins, t_n, t_b, t_i, t_s, t_t, t_r, tyO_1, tyO_2, tyO_3, tyO_4, y_n, y_b, y_i, y_s, y_t, y_l, y_d, y_o, y_o1, y_o2, y_o3, y_o4, y_o5, y_o6, w_t, w_s, w_r, w_rev, w_e, w_zs, w_zt, List.map_cons, List.map_nil, List.replicate_succ, List.replicate_zero, List.cons_append, List.nil_append, List.append_nil, List.set_cons_zero, List.set_cons_succ, List.any_cons, List.any_nil, List.lookup_cons_self, meT, reduceCtorEq, decide_true, decide_false, Bool.or_false, Bool.false_or, Bool.or_true, Bool.true_or, Bool.not_true, Bool.not_false, Bool.and_true, Bool.true_and, Bool.and_false, Bool.false_and, true_and, and_true, wipeE, Option.isSome_some, Option.isSome_none, List.getElem?_concat_length, Nat.reduceBEq, Int.reduceEq, Int.reduceLT, Int.reduceLE, Int.reduceNeg, glo_0, glo_1, glo_2, glo_3, exf_0, exf_1, exf_2, exf_3, c_PastError, c_NoExpression, c_NoLine, c_NoText, d_line])
mutual
def Cl (n : Nat) : D → Prop
  | .str x => x.length ≤ line ∧ ∀ c ∈ x, c < 128
  | .tup ds => Cls n ds
  | .ref h => h < n
  | .kon _ => False
  | .non => True
  | .bl _ => True
  | .int _ => True
def Cls (n : Nat) : List D → Prop
  | [] => True
  | d :: ds => Cl n d ∧ Cls n ds
end
theorem Cls.mem {n : Nat} : ∀ {ds : List D}, Cls n ds → ∀ d ∈ ds, Cl n d
  | _ :: _, h, d, m => by
    rcases List.mem_cons.mp m with e | e
    · rw [e]; exact h.1
    · exact Cls.mem h.2 d e
theorem Cls.of {n : Nat} : ∀ {ds : List D}, (∀ d ∈ ds, Cl n d) → Cls n ds
  | [], _ => trivial
  | d :: ds, h => ⟨h d List.mem_cons_self, Cls.of fun x m => h x (List.mem_cons_of_mem _ m)⟩
mutual
theorem Cl.le {n m : Nat} (l : n ≤ m) : ∀ {d : D}, Cl n d → Cl m d
  | .str _, h => h
  | .tup _, h => Cls.le l h
  | .ref _, h => Nat.lt_of_lt_of_le h l
  | .kon _, h => h
  | .non, h => h
  | .bl _, h => h
  | .int _, h => h
theorem Cls.le {n m : Nat} (l : n ≤ m) : ∀ {ds : List D}, Cls n ds → Cls m ds
  | [], _ => trivial
  | _ :: _, h => ⟨Cl.le l h.1, Cls.le l h.2⟩
end
theorem refty {st : Store} {h : Nat} (l : h < st.length) : ∃ ty, tyO st[h]? = some ty ∧ isTy T (some ty) .int = false ∧ isTy T (some ty) .bool = false ∧ isTy T (some ty) .str = false ∧ isTy T (some ty) .tuple = false := by
  rw [List.getElem?_eq_getElem l]
  cases st[h] <;> exact ⟨_, rfl, rfl, rfl, rfl, rfl⟩
def isI : D → Bool
  | .int _ => true
  | _ => false
theorem isintG {k : Nat} {d : D} {st : Store} {Q : QE} {X : QX} (c : Cl st.length d) (hq : Q (.bl (isI d)) st) : Call T (k + 1) n_is_integer [d] st Q X := by
  refine call_z f_is_integer.fn rfl rfl ?_
  show wpB T (Call T k) none b_is_integer [some d] st _
  unfold b_is_integer
  cases d with
  | ref h =>
    obtain ⟨ty, e, y1, y2, y3, y4⟩ := refty (st := st) c
    simp! [e, y1]
    exact hq
  | kon _ => exact c.elim
  | non => simp!; exact hq
  | bl _ => simp!; exact hq
  | int _ => simp!; exact hq
  | str _ => simp!; exact hq
  | tup _ => simp!; exact hq
def nameB : D → Bool
  | .str x => decide (1 ≤ x.length) && decide (x.length ≤ 8) && x.all fun c => decide (c ∈ az)
  | _ => false
theorem nameB_is {d : D} (h : nameB d = true) : ∃ x, d = .str x ∧ IsName x := by
  cases d with
  | str x =>
    simp only [nameB, Bool.and_eq_true, decide_eq_true_eq, List.all_eq_true] at h
    exact ⟨x, rfl, h.1.1, h.1.2, h.2⟩
  | _ => cases h
theorem IsName.B {x : List Nat} (h : IsName x) : nameB (.str x) = true := by
  simp only [nameB, Bool.and_eq_true, decide_eq_true_eq, List.all_eq_true]
  exact ⟨⟨h.lo, h.hi⟩, h.az⟩
theorem inLettersG : ∀ c, c < 128 → (!(Builtin.Str.occurrences ⟨az.toArray⟩ ⟨[c].toArray⟩ 0 az.length 1).isEmpty) = decide (c ∈ az) := by decide +kernel
end Y.K_k14
set_option linter.all false
set_option maxHeartbeats 1600000
set_option maxRecDepth 100000
namespace Y.K_k14
open Y PySem
local macro_rules
  | `(tactic| simp! [$ls,*]) => `(tactic| simp (implicitDefEqProofs := false) (dsimp := false) (failIfUnchanged := false) only [lz1, z_ifT, z_ifF, k_c0, k_c1, k_c2, k_c3, k_c4, k_c5, k_c6, k_few0, k_fewS, k_lkm, k_pf0, k_pfh, k_pfm, k_cls, k_clsO, k_oth1, k_oth2, k_oth3, k_oth4, k_oth5, k_oth6, k_oth7, ks_nx, ks_rt, ks_bk, ks_ct, ks_xc, kl_nx, kl_rt, kl_bk, kl_ct, kl_xc, kc_nx, kc_rt, kc_xc, kt_nx, kt_rt, kt_bk, kt_ct, kt_xc, kh_nx, kh_rt, un_n, un_s, isNon_1, isNon_2, isNon_3, isNon_4, isNon_5, isNon_6, isNon_7, boolQ_1, intQ_1, optQ_1, lstQ_1, sqQ_1, sqQ_2, cntQ_1, cntQ_2, cntQ_3, dicQ_1, insQ_1, getIx_0, getIx_1, getIx_2, getIx_3, getIx_4, getIx_5, ixrQ_1, ixrQ_2, ixrQ_3, ixrQ_4, setIx_0, setIx_1, setIx_2, bindQ_nm, bindL_0, bindL_1, bindQ_tp, z_var, z_con, z_glo, z_bin, z_neg, z_cmp, z_chain, z_isN, z_notN, z_and, z_or, z_not, z_ife, z_call, z_make, methQ_1, z_eqo, z_meth, z_fld, z_pr, z_me, z_isi, z_idx, z_sli, z_abs0, z_tup, z_lst, z_dic, z_dcomp, z_fstr, z_rvl, z_efld, z_eisi, z_ei1, z_ei2, z_comp, z_Tcmp, z_Tchain, z_TisN, z_TnotN, z_Tand, z_Tor, z_Tnot, z_Ttv, z_nil, z_cons, z_Fnil, z_Fcons, z_Tsn, z_Ts1, z_rng1, int2Q_1, z_rng2, z_rev, z_enm, z_zip, z_sq, z_Bnil, z_Bcons, z_asg, z_asgt, z_asg2, z_setf, z_seti, augQ_1, augQ_2, z_augn, z_augf, z_exp, z_ret, z_retN, z_if, z_for, z_whl, z_brk, z_cnt, z_pas, z_rais0, z_rais1, z_try, z_Hnil, z_Hcons, v_v0, v_vs, v_add, v_sub, v_mul, v_fdiv, v_tmul, v_smul, v_mod, v_pow, v_sadd, v_tadd, v_ladd, v_lmul, v_int, v_intb, v_abs, v_max2, v_min2, v_stri, v_strs, v_lens, v_lenm, v_len0, v_len1, v_len2, v_len3, v_len4, v_len5, v_len6, v_lenr, v_tupt, v_tupr, v_lstt, v_lstr, v_any, v_all, v_ixt, v_ixr, v_kon, v_seti, strQ_1, strQ_2, strQ_3, v_pts, v_ptn, v_sls, v_slt, v_slr, v_fld, v_setf, v_okl, v_oks, v_app, v_pop, v_dk1, v_dk2, v_get2, v_get1, v_insl, v_revl, v_upr, v_sti, v_sts, v_stc, v_rvl, v_lt, v_le, v_gt, v_ge, v_isb, v_nsb, v_eq, v_deq, v_ne, v_in, v_ni, v_eqii, v_eqss, v_eqbb, v_eqsi, v_eqis, v_eqni, v_eqin, v_eqns, v_eqsn, v_trn, v_trb, v_tri, v_trt, v_trr, v_trs, v_fms, v_fmi, v_inp, inrQ_1, inrQ_2, inrQ_3, v_inl, v_inK, v_ins, t_n, t_b, t_i, t_s, t_t, t_r, tyO_1, tyO_2, tyO_3, tyO_4, y_n, y_b, y_i, y_s, y_t, y_l, y_d, y_o, y_o1, y_o2, y_o3, y_o4, y_o5, y_o6, w_t, w_s, w_r, w_rev, w_e, w_zs, w_zt, List.map_cons, List.map_nil, List.replicate_succ, List.replicate_zero, List.cons_append, List.nil_append, List.append_nil, List.set_cons_zero, List.set_cons_succ, List.any_cons, List.any_nil, List.lookup_cons_self, meT, reduceCtorEq, decide_true, decide_false, Bool.or_false, Bool.false_or, Bool.or_true, Bool.true_or, Bool.not_true, Bool.not_false, Bool.and_true, Bool.true_and, Bool.and_false, Bool.false_and, true_and, and_true, wipeE, Option.isSome_some, Option.isSome_none, List.getElem?_concat_length, Nat.reduceBEq, Int.reduceEq, Int.reduceLT, Int.reduceLE, Int.reduceNeg, glo_0, glo_1, glo_2, glo_3, exf_0, exf_1, exf_2, exf_3, c_PastError, c_NoExpression, c_NoLine, c_NoText, d_line, $ls,*])
local macro_rules
  | `(tactic| simp!) => `(tactic| simp (implicitDefEqProofs := false) (dsimp := false) (failIfUnchanged := false) only [lz1, z_ifT, z_ifF, k_c0, k_c1, k_c2, k_c3, k_c4, k_c5, k_c6, k_few0, k_fewS, k_lkm, k_pf0, k_pfh, k_pfm, k_cls, k_clsO, k_oth1, k_oth2, k_oth3, k_oth4, k_oth5, k_oth6, k_oth7, ks_nx, ks_rt, ks_bk, ks_ct, ks_xc, kl_nx, kl_rt, kl_bk, kl_ct, kl_xc, kc_nx, kc_rt, kc_xc, kt_nx, kt_rt, kt_bk, kt_ct, kt_xc, kh_nx, kh_rt, un_n, un_s, isNon_1, isNon_2, isNon_3, isNon_4, isNon_5, isNon_6, isNon_7, boolQ_1, intQ_1, optQ_1, lstQ_1, sqQ_1, sqQ_2, cntQ_1, cntQ_2, cntQ_3, dicQ_1, insQ_1, getIx_0, getIx_1, getIx_2, getIx_3, getIx_4, getIx_5, ixrQ_1, ixrQ_2, ixrQ_3, ixrQ_4, setIx_0, setIx_1, setIx_2, bindQ_nm, bindL_0, bindL_1, bindQ_tp, z_var, z_con, z_glo, z_bin, z_neg, z_cmp, z_chain, z_isN, z_notN, z_and, z_or, z_not, z_ife, z_call, z_make, methQ_1, z_eqo, z_meth, z_fld, z_pr, z_me, z_isi, z_idx, z_sli, z_abs0, z_tup, z_lst, z_dic, z_dcomp, z_fstr, z_rvl, z_efld, z_eisi, z_ei1, z_ei2, z_comp, z_Tcmp, z_Tchain, z_TisN, z_TnotN, z_Tand, z_Tor, z_Tnot, z_Ttv, z_nil, z_cons, z_Fnil, z_Fcons, z_Tsn, z_Ts1, z_rng1, int2Q_1, z_rng2, z_rev, z_enm, z_zip, z_sq, z_Bnil, z_Bcons, z_asg, z_asgt, z_asg2, z_setf, z_seti, augQ_1, augQ_2, z_augn, z_augf, z_exp, z_ret, z_retN, z_if, z_for, z_whl, z_brk, z_cnt, z_pas, z_rais0, z_rais1, z_try, z_Hnil, z_Hcons, v_v0, v_vs, v_add, v_sub, v_mul, v_fdiv, v_tmul, v_smul, v_mod, v_pow, v_sadd, v_tadd, v_ladd, v_lmul, v_int, v_intb, v_abs, v_max2, v_min2, v_stri, v_strs, v_lens, v_lenm, v_len0, v_len1, v_len2, v_len3, v_len4, v_len5, v_len6, v_lenr, v_tupt, v_tupr, v_lstt, v_lstr, v_any, v_all, v_ixt, v_ixr, v_kon, v_seti, strQ_1, strQ_2, strQ_3, v_pts, v_ptn, v_sls, v_slt, v_slr, v_fld, v_setf, v_okl, v_oks, v_app, v_pop, v_dk1, v_dk2, v_get2, v_get1, v_insl, v_revl, v_upr, v_sti, v_sts, v_stc, v_rvl, v_lt, v_le, v_gt, v_ge, v_isb, v_nsb, v_eq, v_deq, v_ne, v_in, v_ni, v_eqii, v_eqss, v_eqbb, v_eqsi, v_eqis, v_eqni, v_eqin, v_eqns, v_eqsn, v_trn, v_trb, v_tri, v_trt, v_trr, v_trs, v_fms, v_fmi, v_inp, inrQ_1, inrQ_2, inrQ_3, v_inl, v_inK, v_ins, t_n, t_b, t_i, t_s, t_t, t_r, tyO_1, tyO_2, tyO_3, tyO_4, y_n, y_b, y_i, y_s, y_t, y_l, y_d, y_o, y_o1, y_o2, y_o3, y_o4, y_o5, y_o6, w_t, w_s, w_r, w_rev, w_e, w_zs, w_zt, List.map_cons, List.map_nil, List.replicate_succ, List.replicate_zero, List.cons_append, List.nil_append, List.append_nil, List.set_cons_zero, List.set_cons_succ, List.any_cons, List.any_nil, List.lookup_cons_self, meT, reduceCtorEq, decide_true, decide_false, Bool.or_false, Bool.false_or, Bool.or_true, Bool.true_or, Bool.not_true, Bool.not_false, Bool.and_true, Bool.true_and, Bool.and_false, Bool.false_and, true_and, and_true, wipeE, Option.isSome_some, Option.isSome_none, List.getElem?_concat_length, Nat.reduceBEq, Int.reduceEq, Int.reduceLT, Int.reduceLE, Int.reduceNeg, glo_0, glo_1, glo_2, glo_3, exf_0, exf_1, exf_2, exf_3, c_PastError, c_NoExpression, c_NoLine, c_NoText, d_line])
def Ex.tx : Ex → List Nat
  | .num i => [48 + i.toNat]
  | .reg c => [c]
  | .op s a b => [40] ++ a.tx ++ [s] ++ b.tx ++ [41]
def prs : Nat → List Nat → Option (Ex × List Nat)
  | _, [] => none
  | 0, c :: r => if c ∈ regs then some (.reg c, r) else if 48 ≤ c ∧ c ≤ 57 then some (.num ((c : Int) - 48), r) else none
  | n + 1, c :: r => if c ∈ regs then some (.reg c, r) else if 48 ≤ c ∧ c ≤ 57 then some (.num ((c : Int) - 48), r) else if c = 40 then (match prs n r with
    | some (a, s :: r2) => if s ∈ signs then (match prs n r2 with
      | some (b, e :: r4) => if e = 41 then some (.op s a b, r4) else none
      | _ => none) else none
    | _ => none) else none
theorem prs_reg {n c : Nat} {r : List Nat} (h : c ∈ regs) : prs n (c :: r) = some (.reg c, r) := by cases n <;> (unfold prs; rw [if_pos h])
theorem prs_dig {n c : Nat} {r : List Nat} (h1 : c ∉ regs) (h : 48 ≤ c ∧ c ≤ 57) : prs n (c :: r) = some (.num ((c : Int) - 48), r) := by cases n <;> (unfold prs; rw [if_neg h1, if_pos h])
theorem prs_no {n c : Nat} {r : List Nat} (h1 : c ∉ regs) (h : ¬ (48 ≤ c ∧ c ≤ 57)) (h3 : n = 0 ∨ c ≠ 40) : prs n (c :: r) = none := by
  cases n with
  | zero => unfold prs; rw [if_neg h1, if_neg h]
  | succ n => unfold prs; rw [if_neg h1, if_neg h, if_neg (by omega)]
theorem prs_op {n : Nat} {r : List Nat} : prs (n + 1) (40 :: r) = match prs n r with
    | some (a, s :: r2) => if s ∈ signs then (match prs n r2 with
      | some (b, e :: r4) => if e = 41 then some (.op s a b, r4) else none
      | _ => none) else none
    | _ => none := by
  show (if 40 ∈ regs then _ else _) = _
  rw [if_neg (by decide), if_neg (by omega), if_pos rfl]
theorem prs_tx : ∀ {n : Nat} {e : Ex} {r : List Nat}, e.ok n → prs n (e.tx ++ r) = some (e, r)
  | n, .reg c, r, h => prs_reg (by cases n <;> exact h)
  | n, .num i, r, h => by
    have h : 0 ≤ i ∧ i ≤ 9 := by cases n <;> exact h
    show prs n ((48 + i.toNat) :: r) = _
    rw [prs_dig (by simp [regs]; omega) (by omega)]
    congr 3
    omega
  | 0, .op s a b, r, h => by cases h
  | n + 1, .op s a b, r, h => by
    obtain ⟨h1, h2, h3⟩ := h
    have : (Ex.op s a b).tx ++ r = 40 :: (a.tx ++ (s :: (b.tx ++ (41 :: r)))) := by simp [Ex.tx]
    rw [this, prs_op, prs_tx h2]
    dsimp only
    rw [if_pos h1, prs_tx h3]
    dsimp only
    rw [if_pos rfl]
theorem prs_is : ∀ {n : Nat} {x r : List Nat} {e : Ex}, prs n x = some (e, r) → x = e.tx ++ r ∧ e.ok n
  | n, [], r, e, h => by cases n <;> cases h
  | n, c :: x, r, e, h => by
    by_cases h1 : c ∈ regs
    · rw [prs_reg h1] at h
      cases h
      exact ⟨rfl, by cases n <;> exact h1⟩
    by_cases h2 : 48 ≤ c ∧ c ≤ 57
    · rw [prs_dig h1 h2] at h
      cases h
      refine ⟨?_, by cases n <;> (show (0 : Int) ≤ _ ∧ _ ≤ (9 : Int); omega)⟩
      show c :: x = (48 + ((c : Int) - 48).toNat) :: x
      congr 1
      omega
    by_cases h3 : n = 0 ∨ c ≠ 40
    · rw [prs_no h1 h2 h3] at h
      cases h
    cases n with
    | zero => exact absurd (.inl rfl) h3
    | succ n =>
      have c40 : c = 40 := by omega
      subst c40
      rw [prs_op] at h
      split at h
      · rename_i a s r2 ea
        split at h
        · rename_i hs
          split at h
          · rename_i b z r4 eb
            split at h
            · rename_i hz
              cases h
              subst hz
              have i1 := prs_is ea
              have i2 := prs_is eb
              refine ⟨?_, hs, i1.2, i2.2⟩
              rw [i1.1, i2.1]
              simp [Ex.tx]
            · cases h
          · cases h
        · cases h
      · cases h
theorem tx_len : ∀ {n : Nat} {e : Ex}, e.ok n → e.tx.length ≤ 2 ^ (n + 2) - 3
  | n, .num i, _ => by
    have : 2 ^ (n + 2) = 4 * 2 ^ n := by rw [Nat.pow_add]; omega
    have := Nat.one_le_two_pow (n := n)
    show 1 ≤ _
    omega
  | n, .reg i, _ => by
    have : 2 ^ (n + 2) = 4 * 2 ^ n := by rw [Nat.pow_add]; omega
    have := Nat.one_le_two_pow (n := n)
    show 1 ≤ _
    omega
  | 0, .op s a b, h => by cases h
  | n + 1, .op s a b, h => by
    have i1 := tx_len h.2.1
    have i2 := tx_len h.2.2
    have : 2 ^ (n + 1 + 2) = 2 * 2 ^ (n + 2) := by rw [Nat.pow_succ]; omega
    have : 2 ^ (n + 2) = 4 * 2 ^ n := by rw [Nat.pow_add]; omega
    have := Nat.one_le_two_pow (n := n)
    simp only [Ex.tx, List.length_append, List.length_cons, List.length_nil]
    omega
theorem ok_128 : ∀ {n : Nat} {e : Ex}, e.ok n → ∀ c ∈ e.tx, c < 128
  | n, .num i, h, c, m => by
    have h : 0 ≤ i ∧ i ≤ 9 := by cases n <;> exact h
    have m : c ∈ [48 + i.toNat] := m
    rw [List.mem_singleton] at m
    omega
  | n, .reg r, h, c, m => by
    have h : r ∈ regs := by cases n <;> exact h
    have m : c ∈ [r] := m
    rw [List.mem_singleton] at m
    subst m
    simp [regs] at h
    omega
  | 0, .op s a b, h, c, m => by cases h
  | n + 1, .op s a b, h, c, m => by
    have hs := h.1
    simp only [Ex.tx, List.mem_append, List.mem_cons, List.not_mem_nil, or_false] at m
    rcases m with (((m | m) | m) | m) | m
    · omega
    · exact ok_128 h.2.1 c m
    · subst m
      simp [signs] at hs
      omega
    · exact ok_128 h.2.2 c m
    · omega
end Y.K_k14
set_option linter.all false
set_option maxHeartbeats 1600000
set_option maxRecDepth 100000
namespace Y.K_k14
open Y PySem
local macro_rules
  | `(tactic| simp! [$ls,*]) => `(tactic| simp (implicitDefEqProofs := false) (dsimp := false) (failIfUnchanged := false) only [lz1, z_ifT, z_ifF, k_c0, k_c1, k_c2, k_c3, k_c4, k_c5, k_c6, k_few0, k_fewS, k_lkm, k_pf0, k_pfh, k_pfm, k_cls, k_clsO, k_oth1, k_oth2, k_oth3, k_oth4, k_oth5, k_oth6, k_oth7, ks_nx, ks_rt, ks_bk, ks_ct, ks_xc, kl_nx, kl_rt, kl_bk, kl_ct, kl_xc, kc_nx, kc_rt, kc_xc, kt_nx, kt_rt, kt_bk, kt_ct, kt_xc, kh_nx, kh_rt, un_n, un_s, isNon_1, isNon_2, isNon_3, isNon_4, isNon_5, isNon_6, isNon_7, boolQ_1, intQ_1, optQ_1, lstQ_1, sqQ_1, sqQ_2, cntQ_1, cntQ_2, cntQ_3, dicQ_1, insQ_1, getIx_0, getIx_1, getIx_2, getIx_3, getIx_4, getIx_5, ixrQ_1, ixrQ_2, ixrQ_3, ixrQ_4, setIx_0, setIx_1, setIx_2, bindQ_nm, bindL_0, bindL_1, bindQ_tp, z_var, z_con, z_glo, z_bin, z_neg, z_cmp, z_chain, z_isN, z_notN, z_and, z_or, z_not, z_ife, z_call, z_make, methQ_1, z_eqo, z_meth, z_fld, z_pr, z_me, z_isi, z_idx, z_sli, z_abs0, z_tup, z_lst, z_dic, z_dcomp, z_fstr, z_rvl, z_efld, z_eisi, z_ei1, z_ei2, z_comp, z_Tcmp, z_Tchain, z_TisN, z_TnotN, z_Tand, z_Tor, z_Tnot, z_Ttv, z_nil, z_cons, z_Fnil, z_Fcons, z_Tsn, z_Ts1, z_rng1, int2Q_1, z_rng2, z_rev, z_enm, z_zip, z_sq, z_Bnil, z_Bcons, z_asg, z_asgt, z_asg2, z_setf, z_seti, augQ_1, augQ_2, z_augn, z_augf, z_exp, z_ret, z_retN, z_if, z_for, z_whl, z_brk, z_cnt, z_pas, z_rais0, z_rais1, z_try, z_Hnil, z_Hcons, v_v0, v_vs, v_add, v_sub, v_mul, v_fdiv, v_tmul, v_smul, v_mod, v_pow, v_sadd, v_tadd, v_ladd, v_lmul, v_int, v_intb, v_abs, v_max2, v_min2, v_stri, v_strs, v_lens, v_lenm, v_len0, v_len1, v_len2, v_len3, v_len4, v_len5, v_len6, v_lenr, v_tupt, v_tupr, v_lstt, v_lstr, v_any, v_all, v_ixt, v_ixr, v_kon, v_seti, strQ_1, strQ_2, strQ_3, v_pts, v_ptn, v_sls, v_slt, v_slr, v_fld, v_setf, v_okl, v_oks, v_app, v_pop, v_dk1, v_dk2, v_get2, v_get1, v_insl, v_revl, v_upr, v_sti, v_sts, v_stc, v_rvl, v_lt, v_le, v_gt, v_ge, v_isb, v_nsb, v_eq, v_deq, v_ne, v_in, v_ni, v_eqii, v_eqss, v_eqbb, v_eqsi, v_eqis, v_eqni, v_eqin, v_eqns, v_eqsn, v_trn, v_trb, v_tri, v_trt, v_trr, v_trs, v_fms, v_fmi, v_inp, inrQ_1, inrQ_2, inrQ_3, v_inl, v_inK, v_ins, t_n, t_b, t_i, t_s, t_t, t_r, tyO_1, tyO_2, tyO_3, tyO_4, y_n, y_b, y_i, y_s, y_t, y_l, y_d, y_o, y_o1, y_o2, y_o3, y_o4, y_o5, y_o6, w_t, w_s, w_r, w_rev, w_e, w_zs, w_zt, List.map_cons, List.map_nil, List.replicate_succ, List.replicate_zero, List.cons_append, List.nil_append, List.append_nil, List.set_cons_zero, List.set_cons_succ, List.any_cons, List.any_nil, List.lookup_cons_self, meT, reduceCtorEq, decide_true, decide_false, Bool.or_false, Bool.false_or, Bool.or_true, Bool.true_or, Bool.not_true, Bool.not_false, Bool.and_true, Bool.true_and, Bool.and_false, Bool.false_and, true_and, and_true, wipeE, Option.isSome_some, Option.isSome_none, List.getElem?_concat_length, Nat.reduceBEq, Int.reduceEq, Int.reduceLT, Int.reduceLE, Int.reduceNeg, glo_0, glo_1, glo_2, glo_3, exf_0, exf_1, exf_2, exf_3, c_PastError, c_NoExpression, c_NoLine, c_NoText, d_line, $ls,*])
local macro_rules
  | `(tactic| simp!) => `(tactic| simp (implicitDefEqProofs := false) (dsimp := false) (failIfUnchanged := false) only [lz1, z_ifT, z_ifF, k_c0, k_c1, k_c2, k_c3, k_c4, k_c5, k_c6, k_few0, k_fewS, k_lkm, k_pf0, k_pfh, k_pfm, k_cls, k_clsO, k_oth1, k_oth2, k_oth3, k_oth4, k_oth5, k_oth6, k_oth7, ks_nx, ks_rt, ks_bk, ks_ct, ks_xc, kl_nx, kl_rt, kl_bk, kl_ct, kl_xc, kc_nx, kc_rt, kc_xc, kt_nx, kt_rt, kt_bk, kt_ct, kt_xc, kh_nx, kh_rt, un_n, un_s, isNon_1, isNon_2, isNon_3, isNon_4, isNon_5, isNon_6, isNon_7, boolQ_1, intQ_1, optQ_1, lstQ_1, sqQ_1, sqQ_2, cntQ_1, cntQ_2, cntQ_3, dicQ_1, insQ_1, getIx_0, getIx_1, getIx_2, getIx_3, getIx_4, getIx_5, ixrQ_1, ixrQ_2, ixrQ_3, ixrQ_4, setIx_0, setIx_1, setIx_2, bindQ_nm, bindL_0, bindL_1, bindQ_tp, z_var, z_con, z_glo, z_bin, z_neg, z_cmp, z_chain, z_isN, z_notN, z_and, z_or, z_not, z_ife, z_call, z_make, methQ_1, z_eqo, z_meth, z_fld, z_pr, z_me, z_isi, z_idx, z_sli, z_abs0, z_tup, z_lst, z_dic, z_dcomp, z_fstr, z_rvl, z_efld, z_eisi, z_ei1, z_ei2, z_comp, z_Tcmp, z_Tchain, z_TisN, z_TnotN, z_Tand, z_Tor, z_Tnot, z_Ttv, z_nil, z_cons, z_Fnil, z_Fcons, z_Tsn, z_Ts1, z_rng1, int2Q_1, z_rng2, z_rev, z_enm, z_zip, z_sq, z_Bnil, z_Bcons, z_asg, z_asgt, z_asg2, z_setf, z_seti, augQ_1, augQ_2, z_augn, z_augf, z_exp, z_ret, z_retN, z_if, z_for, z_whl, z_brk, z_cnt, z_pas, z_rais0, z_rais1, z_try, z_Hnil, z_Hcons, v_v0, v_vs, v_add, v_sub, v_mul, v_fdiv, v_tmul, v_smul, v_mod, v_pow, v_sadd, v_tadd, v_ladd, v_lmul, v_int, v_intb, v_abs, v_max2, v_min2, v_stri, v_strs, v_lens, v_lenm, v_len0, v_len1, v_len2, v_len3, v_len4, v_len5, v_len6, v_lenr, v_tupt, v_tupr, v_lstt, v_lstr, v_any, v_all, v_ixt, v_ixr, v_kon, v_seti, strQ_1, strQ_2, strQ_3, v_pts, v_ptn, v_sls, v_slt, v_slr, v_fld, v_setf, v_okl, v_oks, v_app, v_pop, v_dk1, v_dk2, v_get2, v_get1, v_insl, v_revl, v_upr, v_sti, v_sts, v_stc, v_rvl, v_lt, v_le, v_gt, v_ge, v_isb, v_nsb, v_eq, v_deq, v_ne, v_in, v_ni, v_eqii, v_eqss, v_eqbb, v_eqsi, v_eqis, v_eqni, v_eqin, v_eqns, v_eqsn, v_trn, v_trb, v_tri, v_trt, v_trr, v_trs, v_fms, v_fmi, v_inp, inrQ_1, inrQ_2, inrQ_3, v_inl, v_inK, v_ins, t_n, t_b, t_i, t_s, t_t, t_r, tyO_1, tyO_2, tyO_3, tyO_4, y_n, y_b, y_i, y_s, y_t, y_l, y_d, y_o, y_o1, y_o2, y_o3, y_o4, y_o5, y_o6, w_t, w_s, w_r, w_rev, w_e, w_zs, w_zt, List.map_cons, List.map_nil, List.replicate_succ, List.replicate_zero, List.cons_append, List.nil_append, List.append_nil, List.set_cons_zero, List.set_cons_succ, List.any_cons, List.any_nil, List.lookup_cons_self, meT, reduceCtorEq, decide_true, decide_false, Bool.or_false, Bool.false_or, Bool.or_true, Bool.true_or, Bool.not_true, Bool.not_false, Bool.and_true, Bool.true_and, Bool.and_false, Bool.false_and, true_and, and_true, wipeE, Option.isSome_some, Option.isSome_none, List.getElem?_concat_length, Nat.reduceBEq, Int.reduceEq, Int.reduceLT, Int.reduceLE, Int.reduceNeg, glo_0, glo_1, glo_2, glo_3, exf_0, exf_1, exf_2, exf_3, c_PastError, c_NoExpression, c_NoLine, c_NoText, d_line])
theorem cut_at {α : Type} {x : List α} {i : Nat} : cutL x (some (i : Int)) (some ((i : Int) + 1)) = (x.drop i).take 1 := by
  have e1 : cutIx x.length 0 (some (i : Int)) = min i x.length := by
    show HT.sIx _ _ _ = _
    simp [HT.sIx]
    try omega
  have e2 : cutIx x.length x.length (some ((i : Int) + 1)) = min (i + 1) x.length := by
    show HT.sIx _ _ _ = _
    simp [HT.sIx]
    try omega
  unfold cutL
  rw [e1, e2]
  by_cases h : i < x.length
  · rw [Nat.min_eq_left (by omega), Nat.min_eq_left (by omega)]
    congr 1
    omega
  · rw [Nat.min_eq_right (by omega), Nat.min_eq_right (by omega), List.drop_of_length_le (Nat.le_refl _), List.drop_of_length_le (by omega)]
    simp
theorem regs_in (c : Nat) : inD (.str [c]) [.str [97], .str [98], .str [99], .str [100], .str [120]] = decide (c ∈ regs) := by
  rw [Bool.eq_iff_iff, decide_eq_true_eq]
  simp [inD, eqD, regs]
  omega
theorem signs_in (c : Nat) : inD (.str [c]) [.str [43], .str [45], .str [42], .str [61], .str [60]] = decide (c ∈ signs) := by
  rw [Bool.eq_iff_iff, decide_eq_true_eq]
  simp [inD, eqD, signs]
  omega
theorem digs_in (c : Nat) : inD (.str [c]) [.str [48], .str [49], .str [50], .str [51], .str [52], .str [53], .str [54], .str [55], .str [56], .str [57]] = decide (48 ≤ c ∧ c ≤ 57) := by
  rw [Bool.eq_iff_iff, decide_eq_true_eq]
  simp [inD, eqD]
  omega
theorem regs_in0 : inD (.str []) [.str [97], .str [98], .str [99], .str [100], .str [120]] = false := by rfl
theorem signs_in0 : inD (.str []) [.str [43], .str [45], .str [42], .str [61], .str [60]] = false := by rfl
theorem digs_in0 : inD (.str []) [.str [48], .str [49], .str [50], .str [51], .str [52], .str [53], .str [54], .str [55], .str [56], .str [57]] = false := by rfl
section
variable {k : Nat} {st : Store} {Q : QE} {X : QX}
theorem expectT (hq : Q .non st) : Call T (k + 1) n_expect [.bl true] st Q X := by
  refine call_z f_expect.fn rfl rfl ?_
  show wpB T (Call T k) none b_expect [some (.bl true)] st _
  unfold b_expect
  simp!
  exact hq
theorem expectF (hq : X ⟨c_NoExpression, []⟩ st) : Call T (k + 1) n_expect [.bl false] st Q X := by
  refine call_z f_expect.fn rfl rfl ?_
  show wpB T (Call T k) none b_expect [some (.bl false)] st _
  unfold b_expect
  simp!
  exact hq
end
theorem dec_digit : ∀ n : Nat, n < 10 → decI (n : Int) = [48 + n] := by decide +kernel
theorem written_ : ∀ (n : Nat) (e : Ex), n ≤ 7 → e.ok n → ∀ (k : Nat) (st : Store) (Q : QE) (X : QX), Q (.str e.tx) st → Call T (k + n + 1) n_written [e.d] st Q X := by
  intro n
  have leaf : ∀ (e : Ex) (m : Nat), (∀ s a b, e ≠ .op s a b) → e.ok m → ∀ (k : Nat) (st : Store) (Q : QE) (X : QX), Q (.str e.tx) st → Call T (k + 1) n_written [e.d] st Q X := by
    intro e m ne he k st Q X hq
    refine call_z f_written.fn rfl rfl ?_
    show wpB T (Call T k) none b_written [some e.d] st _
    unfold b_written
    cases e with
    | num i =>
      have h : 0 ≤ i ∧ i ≤ 9 := by cases m <;> exact he
      obtain ⟨w, rfl⟩ : ∃ w : Nat, i = w := ⟨i.toNat, by omega⟩
      simp! [Ex.d]
      refine ⟨?_, ?_⟩
      · have : ∀ n : Nat, n < 10 → (n : Int).natAbs.log2 < 1920 := by decide
        exact this w (by omega)
      · rw [dec_digit w (by omega)]
        exact hq
    | reg c =>
      simp! [Ex.d]
      exact hq
    | op s a b => exact absurd rfl (ne s a b)
  induction n with
  | zero =>
    intro e _ he k st Q X hq
    cases e with
    | op s a b => cases he
    | num i => exact leaf _ 0 (fun _ _ _ h => by cases h) he k st Q X hq
    | reg c => exact leaf _ 0 (fun _ _ _ h => by cases h) he k st Q X hq
  | succ n ih =>
    intro e n7 he k st Q X hq
    cases e with
    | num i => exact leaf _ (n + 1) (fun _ _ _ h => by cases h) he (k + (n + 1)) st Q X hq
    | reg c => exact leaf _ (n + 1) (fun _ _ _ h => by cases h) he (k + (n + 1)) st Q X hq
    | op s a b =>
      obtain ⟨h1, h2, h3⟩ := he
      have la := tx_len h2
      have lb := tx_len h3
      have : 2 ^ (n + 2) ≤ 2 ^ 8 := Nat.pow_le_pow_right (by decide) (by omega)
      have : (2 : Nat) ^ 8 = 256 := by decide
      refine call_z f_written.fn rfl rfl ?_
      show wpB T (Call T (k + (n + 1))) none b_written [some (.tup [.str [s], a.d, b.d])] st _
      unfold b_written
      simp!
      refine ih a (by omega) h2 k st _ _ ?_
      simp!
      refine ⟨le_line (by simp; omega), le_line (by simp; omega), ?_⟩
      refine ih b (by omega) h3 k st _ _ ?_
      simp!
      refine ⟨le_line (by simp; omega), le_line (by simp; omega), ?_⟩
      exact hq
end Y.K_k14
set_option linter.all false
set_option maxHeartbeats 1600000
set_option maxRecDepth 100000
namespace Y.K_k14
open Y PySem
local macro_rules
  | `(tactic| simp! [$ls,*]) => `(tactic| simp (implicitDefEqProofs := false) (dsimp := false) (failIfUnchanged := false) only [lz1, z_ifT, z_ifF, k_c0, k_c1, k_c2, k_c3, k_c4, k_c5, k_c6, k_few0, k_fewS, k_lkm, k_pf0, k_pfh, k_pfm, k_cls, k_clsO, k_oth1, k_oth2, k_oth3, k_oth4, k_oth5, k_oth6, k_oth7, ks_nx, ks_rt, ks_bk, ks_ct, ks_xc, kl_nx, kl_rt, kl_bk, kl_ct, kl_xc, kc_nx, kc_rt, kc_xc, kt_nx, kt_rt, kt_bk, kt_ct, kt_xc, kh_nx, kh_rt, un_n, un_s, isNon_1, isNon_2, isNon_3, isNon_4, isNon_5, isNon_6, isNon_7, boolQ_1, intQ_1, optQ_1, lstQ_1, sqQ_1, sqQ_2, cntQ_1, cntQ_2, cntQ_3, dicQ_1, insQ_1, getIx_0, getIx_1, getIx_2, getIx_3, getIx_4, getIx_5, ixrQ_1, ixrQ_2, ixrQ_3, ixrQ_4, setIx_0, setIx_1, setIx_2, bindQ_nm, bindL_0, bindL_1, bindQ_tp, z_var, z_con, z_glo, z_bin, z_neg, z_cmp, z_chain, z_isN, z_notN, z_and, z_or, z_not, z_ife, z_call, z_make, methQ_1, z_eqo, z_meth, z_fld, z_pr, z_me, z_isi, z_idx, z_sli, z_abs0, z_tup, z_lst, z_dic, z_dcomp, z_fstr, z_rvl, z_efld, z_eisi, z_ei1, z_ei2, z_comp, z_Tcmp, z_Tchain, z_TisN, z_TnotN, z_Tand, z_Tor, z_Tnot, z_Ttv, z_nil, z_cons, z_Fnil, z_Fcons, z_Tsn, z_Ts1, z_rng1, int2Q_1, z_rng2, z_rev, z_enm, z_zip, z_sq, z_Bnil, z_Bcons, z_asg, z_asgt, z_asg2, z_setf, z_seti, augQ_1, augQ_2, z_augn, z_augf, z_exp, z_ret, z_retN, z_if, z_for, z_whl, z_brk, z_cnt, z_pas, z_rais0, z_rais1, z_try, z_Hnil, z_Hcons, v_v0, v_vs, v_add, v_sub, v_mul, v_fdiv, v_tmul, v_smul, v_mod, v_pow, v_sadd, v_tadd, v_ladd, v_lmul, v_int, v_intb, v_abs, v_max2, v_min2, v_stri, v_strs, v_lens, v_lenm, v_len0, v_len1, v_len2, v_len3, v_len4, v_len5, v_len6, v_lenr, v_tupt, v_tupr, v_lstt, v_lstr, v_any, v_all, v_ixt, v_ixr, v_kon, v_seti, strQ_1, strQ_2, strQ_3, v_pts, v_ptn, v_sls, v_slt, v_slr, v_fld, v_setf, v_okl, v_oks, v_app, v_pop, v_dk1, v_dk2, v_get2, v_get1, v_insl, v_revl, v_upr, v_sti, v_sts, v_stc, v_rvl, v_lt, v_le, v_gt, v_ge, v_isb, v_nsb, v_eq, v_deq, v_ne, v_in, v_ni, v_eqii, v_eqss, v_eqbb, v_eqsi, v_eqis, v_eqni, v_eqin, v_eqns, v_eqsn, v_trn, v_trb, v_tri, v_trt, v_trr, v_trs, v_fms, v_fmi, v_inp, inrQ_1, inrQ_2, inrQ_3, v_inl, v_inK, v_ins, t_n, t_b, t_i, t_s, t_t, t_r, tyO_1, tyO_2, tyO_3, tyO_4, y_n, y_b, y_i, y_s, y_t, y_l, y_d, y_o, y_o1, y_o2, y_o3, y_o4, y_o5, y_o6, w_t, w_s, w_r, w_rev, w_e, w_zs, w_zt, List.map_cons, List.map_nil, List.replicate_succ, List.replicate_zero, List.cons_append, List.nil_append, List.append_nil, List.set_cons_zero, List.set_cons_succ, List.any_cons, List.any_nil, List.lookup_cons_self, meT, reduceCtorEq, decide_true, decide_false, Bool.or_false, Bool.false_or, Bool.or_true, Bool.true_or, Bool.not_true, Bool.not_false, Bool.and_true, Bool.true_and, Bool.and_false, Bool.false_and, true_and, and_true, wipeE, Option.isSome_some, Option.isSome_none, List.getElem?_concat_length, Nat.reduceBEq, Int.reduceEq, Int.reduceLT, Int.reduceLE, Int.reduceNeg, glo_0, glo_1, glo_2, glo_3, exf_0, exf_1, exf_2, exf_3, c_PastError, c_NoExpression, c_NoLine, c_NoText, d_line, $ls,*])
local macro_rules
  | `(tactic| simp!) => `(tactic| simp (implicitDefEqProofs := false) (dsimp := false) (failIfUnchanged := false) only [lz1, z_ifT, z_ifF, k_c0, k_c1, k_c2, k_c3, k_c4, k_c5, k_c6, k_few0, k_fewS, k_lkm, k_pf0, k_pfh, k_pfm, k_cls, k_clsO, k_oth1, k_oth2, k_oth3, k_oth4, k_oth5, k_oth6, k_oth7, ks_nx, ks_rt, ks_bk, ks_ct, ks_xc, kl_nx, kl_rt, kl_bk, kl_ct, kl_xc, kc_nx, kc_rt, kc_xc, kt_nx, kt_rt, kt_bk, kt_ct, kt_xc, kh_nx, kh_rt, un_n, un_s, isNon_1, isNon_2, isNon_3, isNon_4, isNon_5, isNon_6, isNon_7, boolQ_1, intQ_1, optQ_1, lstQ_1, sqQ_1, sqQ_2, cntQ_1, cntQ_2, cntQ_3, dicQ_1, insQ_1, getIx_0, getIx_1, getIx_2, getIx_3, getIx_4, getIx_5, ixrQ_1, ixrQ_2, ixrQ_3, ixrQ_4, setIx_0, setIx_1, setIx_2, bindQ_nm, bindL_0, bindL_1, bindQ_tp, z_var, z_con, z_glo, z_bin, z_neg, z_cmp, z_chain, z_isN, z_notN, z_and, z_or, z_not, z_ife, z_call, z_make, methQ_1, z_eqo, z_meth, z_fld, z_pr, z_me, z_isi, z_idx, z_sli, z_abs0, z_tup, z_lst, z_dic, z_dcomp, z_fstr, z_rvl, z_efld, z_eisi, z_ei1, z_ei2, z_comp, z_Tcmp, z_Tchain, z_TisN, z_TnotN, z_Tand, z_Tor, z_Tnot, z_Ttv, z_nil, z_cons, z_Fnil, z_Fcons, z_Tsn, z_Ts1, z_rng1, int2Q_1, z_rng2, z_rev, z_enm, z_zip, z_sq, z_Bnil, z_Bcons, z_asg, z_asgt, z_asg2, z_setf, z_seti, augQ_1, augQ_2, z_augn, z_augf, z_exp, z_ret, z_retN, z_if, z_for, z_whl, z_brk, z_cnt, z_pas, z_rais0, z_rais1, z_try, z_Hnil, z_Hcons, v_v0, v_vs, v_add, v_sub, v_mul, v_fdiv, v_tmul, v_smul, v_mod, v_pow, v_sadd, v_tadd, v_ladd, v_lmul, v_int, v_intb, v_abs, v_max2, v_min2, v_stri, v_strs, v_lens, v_lenm, v_len0, v_len1, v_len2, v_len3, v_len4, v_len5, v_len6, v_lenr, v_tupt, v_tupr, v_lstt, v_lstr, v_any, v_all, v_ixt, v_ixr, v_kon, v_seti, strQ_1, strQ_2, strQ_3, v_pts, v_ptn, v_sls, v_slt, v_slr, v_fld, v_setf, v_okl, v_oks, v_app, v_pop, v_dk1, v_dk2, v_get2, v_get1, v_insl, v_revl, v_upr, v_sti, v_sts, v_stc, v_rvl, v_lt, v_le, v_gt, v_ge, v_isb, v_nsb, v_eq, v_deq, v_ne, v_in, v_ni, v_eqii, v_eqss, v_eqbb, v_eqsi, v_eqis, v_eqni, v_eqin, v_eqns, v_eqsn, v_trn, v_trb, v_tri, v_trt, v_trr, v_trs, v_fms, v_fmi, v_inp, inrQ_1, inrQ_2, inrQ_3, v_inl, v_inK, v_ins, t_n, t_b, t_i, t_s, t_t, t_r, tyO_1, tyO_2, tyO_3, tyO_4, y_n, y_b, y_i, y_s, y_t, y_l, y_d, y_o, y_o1, y_o2, y_o3, y_o4, y_o5, y_o6, w_t, w_s, w_r, w_rev, w_e, w_zs, w_zt, List.map_cons, List.map_nil, List.replicate_succ, List.replicate_zero, List.cons_append, List.nil_append, List.append_nil, List.set_cons_zero, List.set_cons_succ, List.any_cons, List.any_nil, List.lookup_cons_self, meT, reduceCtorEq, decide_true, decide_false, Bool.or_false, Bool.false_or, Bool.or_true, Bool.true_or, Bool.not_true, Bool.not_false, Bool.and_true, Bool.true_and, Bool.and_false, Bool.false_and, true_and, and_true, wipeE, Option.isSome_some, Option.isSome_none, List.getElem?_concat_length, Nat.reduceBEq, Int.reduceEq, Int.reduceLT, Int.reduceLE, Int.reduceNeg, glo_0, glo_1, glo_2, glo_3, exf_0, exf_1, exf_2, exf_3, c_PastError, c_NoExpression, c_NoLine, c_NoText, d_line])
theorem int1 : ∀ n : Nat, n < 10 → PySem.intText? ⟨([48 + n] : List Nat).toArray⟩ = some (n : Int) := by decide +kernel
theorem go_dig {c : Nat} {st : Store} {Q : QE} (h : 48 ≤ c ∧ c ≤ 57) (hq : Q (.int ((c : Int) - 48)) st) : prQ .int [.str [c]] st Q := by
  obtain ⟨n, ln, rfl⟩ : ∃ n, n < 10 ∧ c = 48 + n := ⟨c - 48, by omega, by omega⟩
  refine ⟨n, int1 n ln, by simp, ?_⟩
  rwa [show ((48 + n : Nat) : Int) - 48 = n by omega] at hq
theorem drop_s {x : List Nat} {i c : Nat} {r : List Nat} (h : x.drop i = c :: r) : x.drop (i + 1) = r ∧ i < x.length := by
  have l : i < x.length := by
    rcases Nat.lt_or_ge i x.length with l | l
    · exact l
    · rw [List.drop_of_length_le l] at h; cases h
  rw [List.drop_eq_getElem_cons l] at h
  injection h with _ h
  exact ⟨h, l⟩
theorem parsed_ : ∀ (n : Nat) (x : List Nat) (i : Nat) (m i' : Int) (k : Nat) (st : Store) (Q : QE) (X : QX), m = n → i' = i → x.length ≤ 100000 → (∀ e j, j ≤ x.length → i < j → prs n (x.drop i) = some (e, x.drop j) → Q (.tup [e.d, .int j]) st) → (prs n (x.drop i) = none → X ⟨c_NoExpression, []⟩ st) → Call T (k + n + 2) n_parsed [.str x, .int i', .int m] st Q X := by
  intro n
  induction n with
  | zero =>
    intro x i m i' k st Q X hm hi lx hq hx
    subst hm hi
    refine call_z f_parsed.fn rfl rfl ?_
    show wpB T (Call T (k + 1)) none b_parsed [some (.str x), some (.int i), some (.int ((0 : Nat) : Int)), none, none, none] st _
    unfold b_parsed
    simp!
    refine ⟨le_line (by omega), ?_⟩
    rw [cut_at]
    cases e : x.drop i with
    | nil =>
      rw [e] at hx
      simp! [List.take_nil, regs_in0, digs_in0]
      refine ⟨rfl, rfl, rfl, rfl, ?_⟩
      exact expectF (hx rfl)
    | cons c r =>
      obtain ⟨dr, l⟩ := drop_s e
      rw [e] at hq hx
      rw [show (c :: r).take 1 = [c] from rfl]
      refine ⟨rfl, rfl, ?_⟩
      rw [regs_in]
      by_cases h1 : c ∈ regs
      · have t := decide_eq_true h1
        simp! [t]
        exact hq (.reg c) (i + 1) (by omega) (by omega) (by rw [prs_reg h1, dr])
      have t1 := decide_eq_false h1
      simp! [t1]
      refine ⟨rfl, rfl, ?_⟩
      rw [digs_in]
      by_cases h2 : 48 ≤ c ∧ c ≤ 57
      · have t := decide_eq_true h2
        simp! [t]
        refine go_dig h2 ?_
        simp!
        exact hq (.num _) (i + 1) (by omega) (by omega) (by rw [prs_dig h1 h2, dr])
      have t2 := decide_eq_false h2
      by_cases h3 : c = 40
      · subst h3
        simp! [t2]
        exact expectF (hx (prs_no h1 h2 (.inl rfl)))
      · have t3 : decide (([c] : List Nat) = [40]) = false := decide_eq_false (by simpa using h3)
        simp! [t2, t3]
        exact expectF (hx (prs_no h1 h2 (.inr h3)))
  | succ n ih =>
    intro x i m i' k st Q X hm hi lx hq hx
    subst hm hi
    refine call_z f_parsed.fn rfl rfl ?_
    show wpB T (Call T (k + n + 2)) none b_parsed [some (.str x), some (.int i), some (.int ((n + 1 : Nat) : Int)), none, none, none] st _
    unfold b_parsed
    simp!
    refine ⟨le_line (by omega), ?_⟩
    rw [cut_at]
    cases e : x.drop i with
    | nil =>
      rw [e] at hx
      simp! [List.take_nil, regs_in0, digs_in0]
      refine ⟨rfl, rfl, rfl, rfl, ?_⟩
      exact expectF (hx rfl)
    | cons c r =>
      obtain ⟨dr, l⟩ := drop_s e
      rw [e] at hq hx
      rw [show (c :: r).take 1 = [c] from rfl]
      refine ⟨rfl, rfl, ?_⟩
      rw [regs_in]
      by_cases h1 : c ∈ regs
      · have t := decide_eq_true h1
        simp! [t]
        exact hq (.reg c) (i + 1) (by omega) (by omega) (by rw [prs_reg h1, dr])
      have t1 := decide_eq_false h1
      simp! [t1]
      refine ⟨rfl, rfl, ?_⟩
      rw [digs_in]
      by_cases h2 : 48 ≤ c ∧ c ≤ 57
      · have t := decide_eq_true h2
        simp! [t]
        refine go_dig h2 ?_
        simp!
        exact hq (.num _) (i + 1) (by omega) (by omega) (by rw [prs_dig h1 h2, dr])
      have t2 := decide_eq_false h2
      by_cases h3 : c = 40
      · subst h3
        have tn : decide ((0 : Int) < ((n + 1 : Nat) : Int)) = true := decide_eq_true (by omega)
        have pe := prs_op (n := n) (r := r)
        simp! [t2, tn]
        refine expectT ?_
        simp!
        refine ih x (i + 1) _ _ k st _ _ (by omega) (by omega) lx (fun a j lj ij ea => ?_) (fun en => ?_)
        · rw [dr] at ea
          rw [ea] at pe
          simp!
          refine ⟨le_line (by omega), ?_⟩
          rw [cut_at]
          cases e2 : x.drop j with
          | nil =>
            rw [e2] at pe
            simp! [List.take_nil, signs_in0]
            refine ⟨rfl, rfl, ?_⟩
            exact expectF (hx pe)
          | cons s r2 =>
            obtain ⟨dr2, l2⟩ := drop_s e2
            rw [e2] at pe
            dsimp only at pe
            rw [show (s :: r2).take 1 = [s] from rfl]
            simp! [signs_in]
            refine ⟨rfl, rfl, ?_⟩
            by_cases hs : s ∈ signs
            · rw [if_pos hs] at pe
              have t := decide_eq_true hs
              simp! [t]
              refine expectT ?_
              simp!
              refine ih x (j + 1) _ _ k st _ _ (by omega) (by omega) lx (fun b j2 lj2 ij2 eb => ?_) (fun en => ?_)
              · rw [dr2] at eb
                rw [eb] at pe
                simp!
                refine ⟨le_line (by omega), ?_⟩
                rw [cut_at]
                cases e3 : x.drop j2 with
                | nil =>
                  rw [e3] at pe
                  have tz : decide (([] : List Nat) = [41]) = false := by decide
                  simp! [List.take_nil, tz]
                  exact expectF (hx pe)
                | cons z r4 =>
                  obtain ⟨dr4, l4⟩ := drop_s e3
                  rw [e3] at pe
                  dsimp only at pe
                  rw [show (z :: r4).take 1 = [z] from rfl]
                  by_cases hz : z = 41
                  · subst hz
                    rw [if_pos rfl, ← dr4] at pe
                    simp!
                    refine expectT ?_
                    simp!
                    exact hq (.op s a b) (j2 + 1) (by omega) (by omega) pe
                  · rw [if_neg hz] at pe
                    have tz : decide (([z] : List Nat) = [41]) = false := decide_eq_false (by simpa using hz)
                    simp! [tz]
                    exact expectF (hx pe)
              · rw [dr2] at en
                rw [en] at pe
                exact hx pe
            · rw [if_neg hs] at pe
              have t := decide_eq_false hs
              simp! [t]
              exact expectF (hx pe)
        · rw [dr] at en
          rw [en] at pe
          exact hx pe
      · have t3 : decide (([c] : List Nat) = [40]) = false := decide_eq_false (by simpa using h3)
        simp! [t2, t3]
        exact expectF (hx (prs_no h1 h2 (.inr h3)))
theorem exprof {x : List Nat} {k : Nat} {st : Store} {Q : QE} {X : QX} (lx : x.length ≤ 100000) (hq : ∀ e, prs 6 x = some (e, []) → Q e.d st) (hx : (∀ e, prs 6 x ≠ some (e, [])) → X ⟨c_NoExpression, []⟩ st) : Call T (k + 9) n_expression_of [.str x] st Q X := by
  refine call_z f_expression_of.fn rfl rfl ?_
  show wpB T (Call T (k + 8)) none b_expression_of [some (.str x), none, none] st _
  unfold b_expression_of
  simp!
  refine parsed_ 6 x 0 _ _ k st _ _ rfl rfl lx (fun e j lj _ ee => ?_) (fun en => ?_)
  · rw [List.drop_zero] at ee
    by_cases hj : j = x.length
    · have t : decide ((j : Int) = (x.length : Int)) = true := decide_eq_true (by omega)
      rw [hj, List.drop_length] at ee
      simp! [t]
      refine ⟨le_line (by omega), ?_⟩
      refine expectT ?_
      simp!
      exact hq e ee
    · have t : decide ((j : Int) = (x.length : Int)) = false := decide_eq_false (by omega)
      simp! [t]
      refine ⟨le_line (by omega), ?_⟩
      refine expectF (hx fun e' h => ?_)
      rw [ee] at h
      have : x.drop j = [] := by injection h with h; injection h
      have := congrArg List.length this
      rw [List.length_drop, List.length_nil] at this
      omega
  · rw [List.drop_zero] at en
    exact hx fun e h => by rw [en] at h; cases h
end Y.K_k14
set_option linter.all false
set_option maxHeartbeats 1600000
set_option maxRecDepth 100000
namespace Y.K_k14
open Y PySem
local macro_rules
  | `(tactic| simp! [$ls,*]) => `(tactic| simp (implicitDefEqProofs := false) (dsimp := false) (failIfUnchanged := false) only [lz1, z_ifT, z_ifF, k_c0, k_c1, k_c2, k_c3, k_c4, k_c5, k_c6, k_few0, k_fewS, k_lkm, k_pf0, k_pfh, k_pfm, k_cls, k_clsO, k_oth1, k_oth2, k_oth3, k_oth4, k_oth5, k_oth6, k_oth7, ks_nx, ks_rt, ks_bk, ks_ct, ks_xc, kl_nx, kl_rt, kl_bk, kl_ct, kl_xc, kc_nx, kc_rt, kc_xc, kt_nx, kt_rt, kt_bk, kt_ct, kt_xc, kh_nx, kh_rt, un_n, un_s, isNon_1, isNon_2, isNon_3, isNon_4, isNon_5, isNon_6, isNon_7, boolQ_1, intQ_1, optQ_1, lstQ_1, sqQ_1, sqQ_2, cntQ_1, cntQ_2, cntQ_3, dicQ_1, insQ_1, getIx_0, getIx_1, getIx_2, getIx_3, getIx_4, getIx_5, ixrQ_1, ixrQ_2, ixrQ_3, ixrQ_4, setIx_0, setIx_1, setIx_2, bindQ_nm, bindL_0, bindL_1, bindQ_tp, z_var, z_con, z_glo, z_bin, z_neg, z_cmp, z_chain, z_isN, z_notN, z_and, z_or, z_not, z_ife, z_call, z_make, methQ_1, z_eqo, z_meth, z_fld, z_pr, z_me, z_isi, z_idx, z_sli, z_abs0, z_tup, z_lst, z_dic, z_dcomp, z_fstr, z_rvl, z_efld, z_eisi, z_ei1, z_ei2, z_comp, z_Tcmp, z_Tchain, z_TisN, z_TnotN, z_Tand, z_Tor, z_Tnot, z_Ttv, z_nil, z_cons, z_Fnil, z_Fcons, z_Tsn, z_Ts1, z_rng1, int2Q_1, z_rng2, z_rev, z_enm, z_zip, z_sq, z_Bnil, z_Bcons, z_asg, z_asgt, z_asg2, z_setf, z_seti, augQ_1, augQ_2, z_augn, z_augf, z_exp, z_ret, z_retN, z_if, z_for, z_whl, z_brk, z_cnt, z_pas, z_rais0, z_rais1, z_try, z_Hnil, z_Hcons, v_v0, v_vs, v_add, v_sub, v_mul, v_fdiv, v_tmul, v_smul, v_mod, v_pow, v_sadd, v_tadd, v_ladd, v_lmul, v_int, v_intb, v_abs, v_max2, v_min2, v_stri, v_strs, v_lens, v_lenm, v_len0, v_len1, v_len2, v_len3, v_len4, v_len5, v_len6, v_lenr, v_tupt, v_tupr, v_lstt, v_lstr, v_any, v_all, v_ixt, v_ixr, v_kon, v_seti, strQ_1, strQ_2, strQ_3, v_pts, v_ptn, v_sls, v_slt, v_slr, v_fld, v_setf, v_okl, v_oks, v_app, v_pop, v_dk1, v_dk2, v_get2, v_get1, v_insl, v_revl, v_upr, v_sti, v_sts, v_stc, v_rvl, v_lt, v_le, v_gt, v_ge, v_isb, v_nsb, v_eq, v_deq, v_ne, v_in, v_ni, v_eqii, v_eqss, v_eqbb, v_eqsi, v_eqis, v_eqni, v_eqin, v_eqns, v_eqsn, v_trn, v_trb, v_tri, v_trt, v_trr, v_trs, v_fms, v_fmi, v_inp, inrQ_1, inrQ_2, inrQ_3, v_inl, v_inK, v_ins, t_n, t_b, t_i, t_s, t_t, t_r, tyO_1, tyO_2, tyO_3, tyO_4, y_n, y_b, y_i, y_s, y_t, y_l, y_d, y_o, y_o1, y_o2, y_o3, y_o4, y_o5, y_o6, w_t, w_s, w_r, w_rev, w_e, w_zs, w_zt, List.map_cons, List.map_nil, List.replicate_succ, List.replicate_zero, List.cons_append, List.nil_append, List.append_nil, List.set_cons_zero, List.set_cons_succ, List.any_cons, List.any_nil, List.lookup_cons_self, meT, reduceCtorEq, decide_true, decide_false, Bool.or_false, Bool.false_or, Bool.or_true, Bool.true_or, Bool.not_true, Bool.not_false, Bool.and_true, Bool.true_and, Bool.and_false, Bool.false_and, true_and, and_true, wipeE, Option.isSome_some, Option.isSome_none, List.getElem?_concat_length, Nat.reduceBEq, Int.reduceEq, Int.reduceLT, Int.reduceLE, Int.reduceNeg, glo_0, glo_1, glo_2, glo_3, exf_0, exf_1, exf_2, exf_3, c_PastError, c_NoExpression, c_NoLine, c_NoText, d_line, $ls,*])
local macro_rules
  | `(tactic| simp!) => `(tactic| simp (implicitDefEqProofs := false) (dsimp := false) (failIfUnchanged := false) only [lz1, z_ifT, z_ifF, k_c0, k_c1, k_c2, k_c3, k_c4, k_c5, k_c6, k_few0, k_fewS, k_lkm, k_pf0, k_pfh, k_pfm, k_cls, k_clsO, k_oth1, k_oth2, k_oth3, k_oth4, k_oth5, k_oth6, k_oth7, ks_nx, ks_rt, ks_bk, ks_ct, ks_xc, kl_nx, kl_rt, kl_bk, kl_ct, kl_xc, kc_nx, kc_rt, kc_xc, kt_nx, kt_rt, kt_bk, kt_ct, kt_xc, kh_nx, kh_rt, un_n, un_s, isNon_1, isNon_2, isNon_3, isNon_4, isNon_5, isNon_6, isNon_7, boolQ_1, intQ_1, optQ_1, lstQ_1, sqQ_1, sqQ_2, cntQ_1, cntQ_2, cntQ_3, dicQ_1, insQ_1, getIx_0, getIx_1, getIx_2, getIx_3, getIx_4, getIx_5, ixrQ_1, ixrQ_2, ixrQ_3, ixrQ_4, setIx_0, setIx_1, setIx_2, bindQ_nm, bindL_0, bindL_1, bindQ_tp, z_var, z_con, z_glo, z_bin, z_neg, z_cmp, z_chain, z_isN, z_notN, z_and, z_or, z_not, z_ife, z_call, z_make, methQ_1, z_eqo, z_meth, z_fld, z_pr, z_me, z_isi, z_idx, z_sli, z_abs0, z_tup, z_lst, z_dic, z_dcomp, z_fstr, z_rvl, z_efld, z_eisi, z_ei1, z_ei2, z_comp, z_Tcmp, z_Tchain, z_TisN, z_TnotN, z_Tand, z_Tor, z_Tnot, z_Ttv, z_nil, z_cons, z_Fnil, z_Fcons, z_Tsn, z_Ts1, z_rng1, int2Q_1, z_rng2, z_rev, z_enm, z_zip, z_sq, z_Bnil, z_Bcons, z_asg, z_asgt, z_asg2, z_setf, z_seti, augQ_1, augQ_2, z_augn, z_augf, z_exp, z_ret, z_retN, z_if, z_for, z_whl, z_brk, z_cnt, z_pas, z_rais0, z_rais1, z_try, z_Hnil, z_Hcons, v_v0, v_vs, v_add, v_sub, v_mul, v_fdiv, v_tmul, v_smul, v_mod, v_pow, v_sadd, v_tadd, v_ladd, v_lmul, v_int, v_intb, v_abs, v_max2, v_min2, v_stri, v_strs, v_lens, v_lenm, v_len0, v_len1, v_len2, v_len3, v_len4, v_len5, v_len6, v_lenr, v_tupt, v_tupr, v_lstt, v_lstr, v_any, v_all, v_ixt, v_ixr, v_kon, v_seti, strQ_1, strQ_2, strQ_3, v_pts, v_ptn, v_sls, v_slt, v_slr, v_fld, v_setf, v_okl, v_oks, v_app, v_pop, v_dk1, v_dk2, v_get2, v_get1, v_insl, v_revl, v_upr, v_sti, v_sts, v_stc, v_rvl, v_lt, v_le, v_gt, v_ge, v_isb, v_nsb, v_eq, v_deq, v_ne, v_in, v_ni, v_eqii, v_eqss, v_eqbb, v_eqsi, v_eqis, v_eqni, v_eqin, v_eqns, v_eqsn, v_trn, v_trb, v_tri, v_trt, v_trr, v_trs, v_fms, v_fmi, v_inp, inrQ_1, inrQ_2, inrQ_3, v_inl, v_inK, v_ins, t_n, t_b, t_i, t_s, t_t, t_r, tyO_1, tyO_2, tyO_3, tyO_4, y_n, y_b, y_i, y_s, y_t, y_l, y_d, y_o, y_o1, y_o2, y_o3, y_o4, y_o5, y_o6, w_t, w_s, w_r, w_rev, w_e, w_zs, w_zt, List.map_cons, List.map_nil, List.replicate_succ, List.replicate_zero, List.cons_append, List.nil_append, List.append_nil, List.set_cons_zero, List.set_cons_succ, List.any_cons, List.any_nil, List.lookup_cons_self, meT, reduceCtorEq, decide_true, decide_false, Bool.or_false, Bool.false_or, Bool.or_true, Bool.true_or, Bool.not_true, Bool.not_false, Bool.and_true, Bool.true_and, Bool.and_false, Bool.false_and, true_and, and_true, wipeE, Option.isSome_some, Option.isSome_none, List.getElem?_concat_length, Nat.reduceBEq, Int.reduceEq, Int.reduceLT, Int.reduceLE, Int.reduceNeg, glo_0, glo_1, glo_2, glo_3, exf_0, exf_1, exf_2, exf_3, c_PastError, c_NoExpression, c_NoLine, c_NoText, d_line])
theorem inD_str {x : List Nat} {ys : List (List Nat)} : inD (.str x) (ys.map D.str) = decide (x ∈ ys) := by
  induction ys with
  | nil => rfl
  | cons y ys ih =>
    have : inD (.str x) ((y :: ys).map D.str) = (decide (y = x) || inD (.str x) (ys.map D.str)) := rfl
    rw [this, ih]
    by_cases e : y = x
    · subst e; simp
    · have e' : ¬ x = y := fun z => e z.symm
      simp [e, e']
def regsL : List (List Nat) := [[97], [98], [99], [100], [120]]
def signsL : List (List Nat) := [[43], [45], [42], [61], [60]]
def intB (lo hi : Int) : D → Bool
  | .int i => decide (lo ≤ i) && decide (i ≤ hi)
  | _ => false
def sgnB : D → Bool
  | .str s => decide (s ∈ signsL)
  | _ => false
def exprB : Nat → D → Bool
  | 0, d => match d with
    | .str x => decide (x ∈ regsL)
    | .int i => decide (0 ≤ i) && decide (i ≤ 9)
    | _ => false
  | n + 1, d => match d with
    | .str x => decide (x ∈ regsL)
    | .int i => decide (0 ≤ i) && decide (i ≤ 9)
    | .tup [a, b, c] => sgnB a && exprB n b && exprB n c
    | _ => false
theorem regsL_in {x : List Nat} : inD (.str x) [.str [97], .str [98], .str [99], .str [100], .str [120]] = decide (x ∈ regsL) := inD_str (ys := regsL)
theorem signsL_in {x : List Nat} : inD (.str x) [.str [43], .str [45], .str [42], .str [61], .str [60]] = decide (x ∈ signsL) := inD_str (ys := signsL)
theorem exprB_is : ∀ {n : Nat} {d : D}, exprB n d = true → ∃ e : Ex, d = e.d ∧ e.ok n := by
  intro n
  have rg : ∀ {x : List Nat}, x ∈ regsL → ∃ c, x = [c] ∧ c ∈ regs := fun {x} h => by
    simp only [regsL, List.mem_cons, List.not_mem_nil, or_false] at h
    rcases h with e | e | e | e | e <;> exact ⟨_, e, by decide⟩
  induction n with
  | zero =>
    intro d h
    cases d with
    | str x =>
      obtain ⟨c, e, m⟩ := rg (of_decide_eq_true h)
      exact ⟨.reg c, by rw [e]; rfl, m⟩
    | int i =>
      simp only [exprB, Bool.and_eq_true, decide_eq_true_eq] at h
      exact ⟨.num i, rfl, h⟩
    | _ => cases h
  | succ n ih =>
    intro d h
    cases d with
    | str x =>
      obtain ⟨c, e, m⟩ := rg (of_decide_eq_true h)
      exact ⟨.reg c, by rw [e]; rfl, m⟩
    | int i =>
      simp only [exprB, Bool.and_eq_true, decide_eq_true_eq] at h
      exact ⟨.num i, rfl, h⟩
    | tup ds =>
      match ds, h with
      | [], h => cases h
      | [_], h => cases h
      | [_, _], h => cases h
      | _ :: _ :: _ :: _ :: _, h => cases h
      | [a, b, c], h =>
        simp only [exprB, Bool.and_eq_true] at h
        obtain ⟨e1, q1, o1⟩ := ih h.1.2
        obtain ⟨e2, q2, o2⟩ := ih h.2
        cases a with
        | str s =>
          have hs : s ∈ signsL := of_decide_eq_true h.1.1
          have : ∃ c, s = [c] ∧ c ∈ signs := by
            simp only [signsL, List.mem_cons, List.not_mem_nil, or_false] at hs
            rcases hs with e | e | e | e | e <;> exact ⟨_, e, by decide⟩
          obtain ⟨c', e, m⟩ := this
          exact ⟨.op c' e1 e2, by rw [e, q1, q2]; rfl, m, o1, o2⟩
        | _ => exact absurd h.1.1 (by simp [sgnB])
    | _ => cases h
theorem Ex.B : ∀ {n : Nat} {e : Ex}, e.ok n → exprB n e.d = true
  | 0, .num i, h => by simp only [Ex.d, exprB, Bool.and_eq_true, decide_eq_true_eq]; exact h
  | n + 1, .num i, h => by simp only [Ex.d, exprB, Bool.and_eq_true, decide_eq_true_eq]; exact h
  | 0, .reg c, h => by rcases regs_cases h with e | e | e | e | e <;> subst e <;> rfl
  | n + 1, .reg c, h => by rcases regs_cases h with e | e | e | e | e <;> subst e <;> rfl
  | 0, .op _ _ _, h => by cases h
  | n + 1, .op s a b, h => by
    simp only [Ex.d, exprB, Bool.and_eq_true]
    refine ⟨⟨?_, Ex.B h.2.1⟩, Ex.B h.2.2⟩
    have hs : s = 43 ∨ s = 45 ∨ s = 42 ∨ s = 61 ∨ s = 60 := by simpa [signs] using h.1
    rcases hs with e | e | e | e | e <;> subst e <;> rfl
theorem isexprG : ∀ (n : Nat) (d : D) (k : Nat) (m : Int) (st : Store) (Q : QE) (X : QX), m = n → Cl st.length d → Q (.bl (exprB n d)) st → Call T (k + n + 2) n_is_expression [d, .int m] st Q X := by
  intro n
  induction n with
  | zero =>
    intro d k m st Q X hm c hq
    refine call_z f_is_expression.fn rfl rfl ?_
    show wpB T (Call T (k + 1)) none b_is_expression [some d, some (.int m)] st _
    unfold b_is_expression
    subst hm
    cases d with
    | ref h =>
      obtain ⟨ty, e, y1, y2, y3, y4⟩ := refty (st := st) c
      simp! [e, y3, y4]
      refine isintG (show Cl st.length (.ref h) from c) ?_
      simp! [isI]
      exact hq
    | kon _ => exact c.elim
    | non => simp!; refine isintG c ?_; simp! [isI]; exact hq
    | bl _ => simp!; refine isintG c ?_; simp! [isI]; exact hq
    | int i =>
      simp!
      refine isintG trivial ?_
      have hq : Q (.bl (decide (0 ≤ i) && decide (i ≤ 9))) st := hq
      cases t : decide (0 ≤ i) with
      | false =>
        rw [t] at hq
        simp! [isI, t]
        exact hq
      | true =>
        rw [t] at hq
        simp! [isI, t]
        exact hq
    | str x =>
      simp!
      refine ⟨rfl, rfl, ?_⟩
      simp! [regsL_in]
      exact hq
    | tup ds =>
      have t : decide (((0 : Nat) : Int) = 0) = true := by decide
      simp! [t]
      exact hq
  | succ n ih =>
    intro d k m st Q X hm c hq
    refine call_z f_is_expression.fn rfl rfl ?_
    show wpB T (Call T (k + n + 2)) none b_is_expression [some d, some (.int m)] st _
    unfold b_is_expression
    cases d with
    | ref h =>
      obtain ⟨ty, e, y1, y2, y3, y4⟩ := refty (st := st) c
      simp! [e, y3, y4]
      refine isintG (show Cl st.length (.ref h) from c) ?_
      simp! [isI]
      exact hq
    | kon _ => exact c.elim
    | non => simp!; refine isintG c ?_; simp! [isI]; exact hq
    | bl _ => simp!; refine isintG c ?_; simp! [isI]; exact hq
    | int i =>
      simp!
      refine isintG trivial ?_
      have hq : Q (.bl (decide (0 ≤ i) && decide (i ≤ 9))) st := hq
      cases t : decide (0 ≤ i) with
      | false =>
        rw [t] at hq
        simp! [isI, t]
        exact hq
      | true =>
        rw [t] at hq
        simp! [isI, t]
        exact hq
    | str x =>
      simp!
      refine ⟨rfl, rfl, ?_⟩
      simp! [regsL_in]
      exact hq
    | tup ds =>
      have t : decide (m = 0) = false := decide_eq_false (by omega)
      by_cases l : ds.length = 3
      · match ds, l, c, hq with
        | [a, b, d], _, c, hq =>
          have hq : Q (.bl (sgnB a && exprB n b && exprB n d)) st := hq
          have ca : Cl st.length a := c.1
          have fin : sgnB a = false → Q (.bl false) st := fun e => by rw [e] at hq; exact hq
          cases a with
          | ref h =>
            obtain ⟨ty, e, y1, y2, y3, y4⟩ := refty (st := st) ca
            simp! [t, e, y3, y4]
            exact fin rfl
          | kon _ => exact ca.elim
          | non => simp! [t]; exact fin rfl
          | bl _ => simp! [t]; exact fin rfl
          | int _ => simp! [t]; exact fin rfl
          | tup _ => simp! [t]; exact fin rfl
          | str s =>
            simp! [t]
            refine ⟨rfl, rfl, ?_⟩
            simp! [signsL_in]
            have hq : Q (.bl (decide (s ∈ signsL) && exprB n b && exprB n d)) st := hq
            cases z : decide (s ∈ signsL) with
            | false =>
              rw [z] at hq
              simp!
              exact hq
            | true =>
              rw [z] at hq
              simp!
              refine ih b k _ st _ X (by omega) c.2.1 ?_
              cases zb : exprB n b with
              | false =>
                rw [zb] at hq
                simp!
                exact hq
              | true =>
                rw [zb] at hq
                simp!
                refine ih d k _ st _ X (by omega) c.2.2.1 ?_
                simp!
                exact hq
      · have t2 : decide ((ds.length : Int) = 3) = false := decide_eq_false (by omega)
        have hb : exprB (n + 1) (.tup ds) = false := by
          match ds, l with
          | [], _ => rfl
          | [_], _ => rfl
          | [_, _], _ => rfl
          | [_, _, _], l => exact absurd rfl l
          | _ :: _ :: _ :: _ :: _, _ => rfl
        rw [hb] at hq
        simp! [t, v_lent, t2]
        exact hq
end Y.K_k14
set_option linter.all false
set_option maxHeartbeats 1600000
set_option maxRecDepth 100000
namespace Y.K_k14
open Y PySem
local macro_rules
  | `(tactic| simp! [$ls,*]) => `(tactic| simp (implicitDefEqProofs := false) (dsimp := false) (failIfUnchanged := false) only [lz1, z_ifT, z_ifF, k_c0, k_c1, k_c2, k_c3, k_c4, k_c5, k_c6, k_few0, k_fewS, k_lkm, k_pf0, k_pfh, k_pfm, k_cls, k_clsO, k_oth1, k_oth2, k_oth3, k_oth4, k_oth5, k_oth6, k_oth7, ks_nx, ks_rt, ks_bk, ks_ct, ks_xc, kl_nx, kl_rt, kl_bk, kl_ct, kl_xc, kc_nx, kc_rt, kc_xc, kt_nx, kt_rt, kt_bk, kt_ct, kt_xc, kh_nx, kh_rt, un_n, un_s, isNon_1, isNon_2, isNon_3, isNon_4, isNon_5, isNon_6, isNon_7, boolQ_1, intQ_1, optQ_1, lstQ_1, sqQ_1, sqQ_2, cntQ_1, cntQ_2, cntQ_3, dicQ_1, insQ_1, getIx_0, getIx_1, getIx_2, getIx_3, getIx_4, getIx_5, ixrQ_1, ixrQ_2, ixrQ_3, ixrQ_4, setIx_0, setIx_1, setIx_2, bindQ_nm, bindL_0, bindL_1, bindQ_tp, z_var, z_con, z_glo, z_bin, z_neg, z_cmp, z_chain, z_isN, z_notN, z_and, z_or, z_not, z_ife, z_call, z_make, methQ_1, z_eqo, z_meth, z_fld, z_pr, z_me, z_isi, z_idx, z_sli, z_abs0, z_tup, z_lst, z_dic, z_dcomp, z_fstr, z_rvl, z_efld, z_eisi, z_ei1, z_ei2, z_comp, z_Tcmp, z_Tchain, z_TisN, z_TnotN, z_Tand, z_Tor, z_Tnot, z_Ttv, z_nil, z_cons, z_Fnil, z_Fcons, z_Tsn, z_Ts1, z_rng1, int2Q_1, z_rng2, z_rev, z_enm, z_zip, z_sq, z_Bnil, z_Bcons, z_asg, z_asgt, z_asg2, z_setf, z_seti, augQ_1, augQ_2, z_augn, z_augf, z_exp, z_ret, z_retN, z_if, z_for, z_whl, z_brk, z_cnt, z_pas, z_rais0, z_rais1, z_try, z_Hnil, z_Hcons, v_v0, v_vs, v_add, v_sub, v_mul, v_fdiv, v_tmul, v_smul, v_mod, v_pow, v_sadd, v_tadd, v_ladd, v_lmul, v_int, v_intb, v_abs, v_max2, v_min2, v_stri, v_strs, v_lens, v_lenm, v_len0, v_len1, v_len2, v_len3, v_len4, v_len5, v_len6, v_lenr, v_tupt, v_tupr, v_lstt, v_lstr, v_any, v_all, v_ixt, v_ixr, v_kon, v_seti, strQ_1, strQ_2, strQ_3, v_pts, v_ptn, v_sls, v_slt, v_slr, v_fld, v_setf, v_okl, v_oks, v_app, v_pop, v_dk1, v_dk2, v_get2, v_get1, v_insl, v_revl, v_upr, v_sti, v_sts, v_stc, v_rvl, v_lt, v_le, v_gt, v_ge, v_isb, v_nsb, v_eq, v_deq, v_ne, v_in, v_ni, v_eqii, v_eqss, v_eqbb, v_eqsi, v_eqis, v_eqni, v_eqin, v_eqns, v_eqsn, v_trn, v_trb, v_tri, v_trt, v_trr, v_trs, v_fms, v_fmi, v_inp, inrQ_1, inrQ_2, inrQ_3, v_inl, v_inK, v_ins, t_n, t_b, t_i, t_s, t_t, t_r, tyO_1, tyO_2, tyO_3, tyO_4, y_n, y_b, y_i, y_s, y_t, y_l, y_d, y_o, y_o1, y_o2, y_o3, y_o4, y_o5, y_o6, w_t, w_s, w_r, w_rev, w_e, w_zs, w_zt, List.map_cons, List.map_nil, List.replicate_succ, List.replicate_zero, List.cons_append, List.nil_append, List.append_nil, List.set_cons_zero, List.set_cons_succ, List.any_cons, List.any_nil, List.lookup_cons_self, meT, reduceCtorEq, decide_true, decide_false, Bool.or_false, Bool.false_or, Bool.or_true, Bool.true_or, Bool.not_true, Bool.not_false, Bool.and_true, Bool.true_and, Bool.and_false, Bool.false_and, true_and, and_true, wipeE, Option.isSome_some, Option.isSome_none, List.getElem?_concat_length, Nat.reduceBEq, Int.reduceEq, Int.reduceLT, Int.reduceLE, Int.reduceNeg, glo_0, glo_1, glo_2, glo_3, exf_0, exf_1, exf_2, exf_3, c_PastError, c_NoExpression, c_NoLine, c_NoText, d_line, $ls,*])
local macro_rules
  | `(tactic| simp!) => `(tactic| simp (implicitDefEqProofs := false) (dsimp := false) (failIfUnchanged := false) only [lz1, z_ifT, z_ifF, k_c0, k_c1, k_c2, k_c3, k_c4, k_c5, k_c6, k_few0, k_fewS, k_lkm, k_pf0, k_pfh, k_pfm, k_cls, k_clsO, k_oth1, k_oth2, k_oth3, k_oth4, k_oth5, k_oth6, k_oth7, ks_nx, ks_rt, ks_bk, ks_ct, ks_xc, kl_nx, kl_rt, kl_bk, kl_ct, kl_xc, kc_nx, kc_rt, kc_xc, kt_nx, kt_rt, kt_bk, kt_ct, kt_xc, kh_nx, kh_rt, un_n, un_s, isNon_1, isNon_2, isNon_3, isNon_4, isNon_5, isNon_6, isNon_7, boolQ_1, intQ_1, optQ_1, lstQ_1, sqQ_1, sqQ_2, cntQ_1, cntQ_2, cntQ_3, dicQ_1, insQ_1, getIx_0, getIx_1, getIx_2, getIx_3, getIx_4, getIx_5, ixrQ_1, ixrQ_2, ixrQ_3, ixrQ_4, setIx_0, setIx_1, setIx_2, bindQ_nm, bindL_0, bindL_1, bindQ_tp, z_var, z_con, z_glo, z_bin, z_neg, z_cmp, z_chain, z_isN, z_notN, z_and, z_or, z_not, z_ife, z_call, z_make, methQ_1, z_eqo, z_meth, z_fld, z_pr, z_me, z_isi, z_idx, z_sli, z_abs0, z_tup, z_lst, z_dic, z_dcomp, z_fstr, z_rvl, z_efld, z_eisi, z_ei1, z_ei2, z_comp, z_Tcmp, z_Tchain, z_TisN, z_TnotN, z_Tand, z_Tor, z_Tnot, z_Ttv, z_nil, z_cons, z_Fnil, z_Fcons, z_Tsn, z_Ts1, z_rng1, int2Q_1, z_rng2, z_rev, z_enm, z_zip, z_sq, z_Bnil, z_Bcons, z_asg, z_asgt, z_asg2, z_setf, z_seti, augQ_1, augQ_2, z_augn, z_augf, z_exp, z_ret, z_retN, z_if, z_for, z_whl, z_brk, z_cnt, z_pas, z_rais0, z_rais1, z_try, z_Hnil, z_Hcons, v_v0, v_vs, v_add, v_sub, v_mul, v_fdiv, v_tmul, v_smul, v_mod, v_pow, v_sadd, v_tadd, v_ladd, v_lmul, v_int, v_intb, v_abs, v_max2, v_min2, v_stri, v_strs, v_lens, v_lenm, v_len0, v_len1, v_len2, v_len3, v_len4, v_len5, v_len6, v_lenr, v_tupt, v_tupr, v_lstt, v_lstr, v_any, v_all, v_ixt, v_ixr, v_kon, v_seti, strQ_1, strQ_2, strQ_3, v_pts, v_ptn, v_sls, v_slt, v_slr, v_fld, v_setf, v_okl, v_oks, v_app, v_pop, v_dk1, v_dk2, v_get2, v_get1, v_insl, v_revl, v_upr, v_sti, v_sts, v_stc, v_rvl, v_lt, v_le, v_gt, v_ge, v_isb, v_nsb, v_eq, v_deq, v_ne, v_in, v_ni, v_eqii, v_eqss, v_eqbb, v_eqsi, v_eqis, v_eqni, v_eqin, v_eqns, v_eqsn, v_trn, v_trb, v_tri, v_trt, v_trr, v_trs, v_fms, v_fmi, v_inp, inrQ_1, inrQ_2, inrQ_3, v_inl, v_inK, v_ins, t_n, t_b, t_i, t_s, t_t, t_r, tyO_1, tyO_2, tyO_3, tyO_4, y_n, y_b, y_i, y_s, y_t, y_l, y_d, y_o, y_o1, y_o2, y_o3, y_o4, y_o5, y_o6, w_t, w_s, w_r, w_rev, w_e, w_zs, w_zt, List.map_cons, List.map_nil, List.replicate_succ, List.replicate_zero, List.cons_append, List.nil_append, List.append_nil, List.set_cons_zero, List.set_cons_succ, List.any_cons, List.any_nil, List.lookup_cons_self, meT, reduceCtorEq, decide_true, decide_false, Bool.or_false, Bool.false_or, Bool.or_true, Bool.true_or, Bool.not_true, Bool.not_false, Bool.and_true, Bool.true_and, Bool.and_false, Bool.false_and, true_and, and_true, wipeE, Option.isSome_some, Option.isSome_none, List.getElem?_concat_length, Nat.reduceBEq, Int.reduceEq, Int.reduceLT, Int.reduceLE, Int.reduceNeg, glo_0, glo_1, glo_2, glo_3, exf_0, exf_1, exf_2, exf_3, c_PastError, c_NoExpression, c_NoLine, c_NoText, d_line])
theorem lgood : ∀ (n : Nat) (d : D) (k : Nat) (m : Int) (st : Store) (Q : QE) (X : QX), m = n → Cl st.length d → (∀ s, Keep st s → Q (.bl (exprB n d)) s) → Call T (k + n + 1) n__law_good [d, .int m] st Q X := by
  intro n
  induction n with
  | zero =>
    intro d k m st Q X hm c hq
    subst hm
    refine call_z f__law_good.fn rfl rfl ?_
    show wpB T (Call T (k + 0)) none b__law_good [some d, some (.int ((0 : Nat) : Int))] st _
    unfold b__law_good
    have fin : exprB 0 d = false → ∀ s, Keep st s → Q (.bl false) s := fun z s ks => by have := hq _ ks; rwa [z] at this
    cases d with
    | ref h =>
      obtain ⟨ty, e, y1, y2, y3, y4⟩ := refty (st := st) c
      simp! [e, y1, y2, y3, y4]
      exact fin rfl _ (.refl _)
    | kon _ => exact c.elim
    | non => simp!; exact fin rfl _ (.refl _)
    | bl _ => simp!; exact fin rfl _ (.refl _)
    | int i =>
      have hq : ∀ s, Keep st s → Q (.bl (decide (0 ≤ i) && decide (i ≤ 9))) s := hq
      have hq := hq _ (.refl _)
      cases t : decide (0 ≤ i) with
      | false =>
        rw [t] at hq
        simp! [t]
        exact hq
      | true =>
        rw [t] at hq
        simp! [t]
        exact hq
    | str x =>
      simp!
      refine ⟨rfl, rfl, ?_⟩
      simp! [regsL_in]
      exact hq _ (.new _ _)
    | tup ds =>
      by_cases l : ds.length = 3
      · have t3 : decide ((ds.length : Int) = 3) = true := decide_eq_true (by omega)
        simp! [v_lent, t3]
        exact fin rfl _ (.refl _)
      · have t3 : decide ((ds.length : Int) = 3) = false := decide_eq_false (by omega)
        simp! [v_lent, t3]
        exact fin rfl _ (.refl _)
  | succ n ih =>
    intro d k m st Q X hm c hq
    refine call_z f__law_good.fn rfl rfl ?_
    show wpB T (Call T (k + (n + 1))) none b__law_good [some d, some (.int m)] st _
    unfold b__law_good
    have fin : exprB (n + 1) d = false → ∀ s, Keep st s → Q (.bl false) s := fun z s ks => by have := hq _ ks; rwa [z] at this
    cases d with
    | ref h =>
      obtain ⟨ty, e, y1, y2, y3, y4⟩ := refty (st := st) c
      simp! [e, y1, y2, y3, y4]
      exact fin rfl _ (.refl _)
    | kon _ => exact c.elim
    | non => simp!; exact fin rfl _ (.refl _)
    | bl _ => simp!; exact fin rfl _ (.refl _)
    | int i =>
      have hq : ∀ s, Keep st s → Q (.bl (decide (0 ≤ i) && decide (i ≤ 9))) s := hq
      have hq := hq _ (.refl _)
      cases t : decide (0 ≤ i) with
      | false =>
        rw [t] at hq
        simp! [t]
        exact hq
      | true =>
        rw [t] at hq
        simp! [t]
        exact hq
    | str x =>
      simp!
      refine ⟨rfl, rfl, ?_⟩
      simp! [regsL_in]
      exact hq _ (.new _ _)
    | tup ds =>
      have t : decide (m = 0) = false := decide_eq_false (by omega)
      by_cases l : ds.length = 3
      · match ds, l, c, hq, fin with
        | [a, b, d], _, c, hq, fin =>
          have hq : ∀ s, Keep st s → Q (.bl (sgnB a && exprB n b && exprB n d)) s := hq
          have ca : Cl st.length a := c.1
          have fin : sgnB a = false → ∀ s, Keep st s → Q (.bl false) s := fun e s ks => by have := hq s ks; rw [e] at this; exact this
          cases a with
          | ref h =>
            obtain ⟨ty, e, y1, y2, y3, y4⟩ := refty (st := st) ca
            simp! [t, e, y1, y2, y3, y4]
            exact fin rfl _ (.refl _)
          | kon _ => exact ca.elim
          | non => simp! [t]; exact fin rfl _ (.refl _)
          | bl _ => simp! [t]; exact fin rfl _ (.refl _)
          | int _ => simp! [t]; exact fin rfl _ (.refl _)
          | tup _ => simp! [t]; exact fin rfl _ (.refl _)
          | str s =>
            simp! [t]
            refine ⟨rfl, rfl, ?_⟩
            cases z : decide (s ∈ signsL) with
            | false =>
              simp! [signsL_in, z]
              exact fin z _ (.new _ _)
            | true =>
              have hq : ∀ s, Keep st s → Q (.bl (exprB n b && exprB n d)) s := fun s' ks => by
                have := hq s' ks
                rw [show sgnB (.str s) = true from z, Bool.true_and] at this
                exact this
              simp! [signsL_in, z]
              have k0 := Keep.new st [O.lst [.str [43], .str [45], .str [42], .str [61], .str [60]]]
              refine ih b k _ _ _ _ (by omega) (c.2.1.le k0.len) fun s1 k1 => ?_
              cases zb : exprB n b with
              | false =>
                simp!
                have := hq _ (k0.trans k1)
                rw [zb] at this
                exact this
              | true =>
                simp!
                refine ih d k _ _ _ _ (by omega) (c.2.2.1.le (k0.trans k1).len) fun s2 k2 => ?_
                simp!
                have := hq _ ((k0.trans k1).trans k2)
                rw [zb, Bool.true_and] at this
                exact this
      · have t3 : decide ((ds.length : Int) = 3) = false := decide_eq_false (by omega)
        simp! [v_lent, t3]
        refine fin ?_ _ (.refl _)
        match ds, l with
        | [], _ => rfl
        | [_], _ => rfl
        | [_, _], _ => rfl
        | [_, _, _], l => exact absurd rfl l
        | _ :: _ :: _ :: _ :: _, _ => rfl
theorem ltext_ : ∀ (n : Nat) (e : Ex), n ≤ 7 → e.ok n → ∀ (k : Nat) (st : Store) (Q : QE) (X : QX), Q (.str e.tx) st → Call T (k + n + 1) n__law_text [e.d] st Q X := by
  intro n
  have leaf : ∀ (e : Ex) (m : Nat), (∀ s a b, e ≠ .op s a b) → e.ok m → ∀ (k : Nat) (st : Store) (Q : QE) (X : QX), Q (.str e.tx) st → Call T (k + 1) n__law_text [e.d] st Q X := by
    intro e m ne he k st Q X hq
    refine call_z f__law_text.fn rfl rfl ?_
    show wpB T (Call T k) none b__law_text [some e.d] st _
    unfold b__law_text
    cases e with
    | num i =>
      have h : 0 ≤ i ∧ i ≤ 9 := by cases m <;> exact he
      obtain ⟨w, rfl⟩ : ∃ w : Nat, i = w := ⟨i.toNat, by omega⟩
      simp! [Ex.d]
      refine ⟨?_, ?_⟩
      · have : ∀ n : Nat, n < 10 → (n : Int).natAbs.log2 < 1920 := by decide
        exact this w (by omega)
      · rw [dec_digit w (by omega)]
        exact hq
    | reg c =>
      simp! [Ex.d]
      exact hq
    | op s a b => exact absurd rfl (ne s a b)
  induction n with
  | zero =>
    intro e _ he k st Q X hq
    cases e with
    | op s a b => cases he
    | num i => exact leaf _ 0 (fun _ _ _ h => by cases h) he k st Q X hq
    | reg c => exact leaf _ 0 (fun _ _ _ h => by cases h) he k st Q X hq
  | succ n ih =>
    intro e n7 he k st Q X hq
    cases e with
    | num i => exact leaf _ (n + 1) (fun _ _ _ h => by cases h) he (k + (n + 1)) st Q X hq
    | reg c => exact leaf _ (n + 1) (fun _ _ _ h => by cases h) he (k + (n + 1)) st Q X hq
    | op s a b =>
      obtain ⟨h1, h2, h3⟩ := he
      have la := tx_len h2
      have lb := tx_len h3
      have : 2 ^ (n + 2) ≤ 2 ^ 8 := Nat.pow_le_pow_right (by decide) (by omega)
      have : (2 : Nat) ^ 8 = 256 := by decide
      refine call_z f__law_text.fn rfl rfl ?_
      show wpB T (Call T (k + (n + 1))) none b__law_text [some (.tup [.str [s], a.d, b.d])] st _
      unfold b__law_text
      simp!
      refine ih a (by omega) h2 k st _ _ ?_
      simp!
      refine ⟨le_line (by simp; omega), le_line (by simp; omega), ?_⟩
      refine ih b (by omega) h3 k st _ _ ?_
      simp!
      refine ⟨le_line (by simp; omega), le_line (by simp; omega), ?_⟩
      exact hq
theorem lsame_ : ∀ (n : Nat) (e : Ex), e.ok n → ∀ (k : Nat) (st : Store) (Q : QE) (X : QX), Q (.bl true) st → Call T (k + n + 1) n__law_same [e.d, e.d] st Q X := by
  intro n
  have leaf : ∀ (e : Ex), (∀ s a b, e ≠ .op s a b) → ∀ (k : Nat) (st : Store) (Q : QE) (X : QX), Q (.bl true) st → Call T (k + 1) n__law_same [e.d, e.d] st Q X := by
    intro e ne k st Q X hq
    refine call_z f__law_same.fn rfl rfl ?_
    show wpB T (Call T k) none b__law_same [some e.d, some e.d] st _
    unfold b__law_same
    cases e with
    | num i => simp! [Ex.d]; exact hq
    | reg c => simp! [Ex.d]; exact hq
    | op s a b => exact absurd rfl (ne s a b)
  induction n with
  | zero =>
    intro e he k st Q X hq
    cases e with
    | op s a b => cases he
    | num i => exact leaf _ (fun _ _ _ h => by cases h) k st Q X hq
    | reg c => exact leaf _ (fun _ _ _ h => by cases h) k st Q X hq
  | succ n ih =>
    intro e he k st Q X hq
    cases e with
    | num i => exact leaf _ (fun _ _ _ h => by cases h) (k + (n + 1)) st Q X hq
    | reg c => exact leaf _ (fun _ _ _ h => by cases h) (k + (n + 1)) st Q X hq
    | op s a b =>
      obtain ⟨h1, h2, h3⟩ := he
      refine call_z f__law_same.fn rfl rfl ?_
      show wpB T (Call T (k + (n + 1))) none b__law_same [some (.tup [.str [s], a.d, b.d]), some (.tup [.str [s], a.d, b.d])] st _
      unfold b__law_same
      simp!
      refine ih a h2 k st _ _ ?_
      simp!
      refine ih b h3 k st _ _ ?_
      simp!
      exact hq
section
variable {k : Nat} {d : D} {st : Store} {Q : QE} {X : QX}
theorem exprtext (c : Cl st.length d) (h1 : exprB 6 d = false → X ⟨c_NoExpression, []⟩ st) (h2 : ∀ e : Ex, e.ok 6 → d = e.d → Q (.str e.tx) st) : Call T (k + 10) n_expression_text [d] st Q X := by
  refine call_z f_expression_text.fn rfl rfl ?_
  show wpB T (Call T (k + 9)) none b_expression_text [some d] st _
  unfold b_expression_text
  simp!
  refine isexprG 6 d (k + 1) _ _ _ _ rfl c ?_
  cases z : exprB 6 d with
  | false =>
    simp!
    exact h1 z
  | true =>
    obtain ⟨e, rfl, he⟩ := exprB_is z
    simp!
    refine written_ 6 e (by decide) he (k + 2) _ _ _ ?_
    simp!
    exact h2 e he rfl
def isTx : D → Bool
  | .str _ => true
  | _ => false
theorem isiS {st : Store} {d : D} (c : Cl st.length d) (F : Bool → Prop) : isiQ T st d [.str] F = F (match d with | .str _ => true | _ => false) := by
  cases d with
  | ref h =>
    obtain ⟨ty, e, y1, y2, y3, y4⟩ := refty (st := st) c
    simp! [e, y3]
  | kon _ => exact c.elim
  | non => simp!
  | bl _ => simp!
  | int _ => simp!
  | str _ => simp!
  | tup _ => simp!
theorem readexpr (c : Cl st.length d) (l : ∀ x, d = .str x → x.length ≤ 100000) (h1 : (∀ x e, d = .str x → prs 6 x ≠ some (e, [])) → X ⟨c_NoExpression, []⟩ st) (h2 : ∀ x e, d = .str x → prs 6 x = some (e, []) → Q e.d st) : Call T (k + 10) n_read_expression [d] st Q X := by
  refine call_z f_read_expression.fn rfl rfl ?_
  show wpB T (Call T (k + 9)) none b_read_expression [some d] st _
  unfold b_read_expression
  have i := fun F => isiS c F
  cases d with
  | str x =>
    simp!
    refine exprof (l x rfl) (fun e he => ?_) fun no => ?_
    · simp!
      exact h2 x e rfl he
    · exact h1 fun x' e ee => by cases ee; exact no e
  | kon _ => exact c.elim
  | _ => simp! [i]; exact h1 fun x e ee => by cases ee
end
end Y.K_k14
set_option linter.all false
set_option maxHeartbeats 1600000
set_option maxRecDepth 100000
namespace Y.K_k14
open Y PySem
local macro_rules
  | `(tactic| simp! [$ls,*]) => `(tactic| simp (implicitDefEqProofs := false) (dsimp := false) (failIfUnchanged := false) only [lz1, z_ifT, z_ifF, k_c0, k_c1, k_c2, k_c3, k_c4, k_c5, k_c6, k_few0, k_fewS, k_lkm, k_pf0, k_pfh, k_pfm, k_cls, k_clsO, k_oth1, k_oth2, k_oth3, k_oth4, k_oth5, k_oth6, k_oth7, ks_nx, ks_rt, ks_bk, ks_ct, ks_xc, kl_nx, kl_rt, kl_bk, kl_ct, kl_xc, kc_nx, kc_rt, kc_xc, kt_nx, kt_rt, kt_bk, kt_ct, kt_xc, kh_nx, kh_rt, un_n, un_s, isNon_1, isNon_2, isNon_3, isNon_4, isNon_5, isNon_6, isNon_7, boolQ_1, intQ_1, optQ_1, lstQ_1, sqQ_1, sqQ_2, cntQ_1, cntQ_2, cntQ_3, dicQ_1, insQ_1, getIx_0, getIx_1, getIx_2, getIx_3, getIx_4, getIx_5, ixrQ_1, ixrQ_2, ixrQ_3, ixrQ_4, setIx_0, setIx_1, setIx_2, bindQ_nm, bindL_0, bindL_1, bindQ_tp, z_var, z_con, z_glo, z_bin, z_neg, z_cmp, z_chain, z_isN, z_notN, z_and, z_or, z_not, z_ife, z_call, z_make, methQ_1, z_eqo, z_meth, z_fld, z_pr, z_me, z_isi, z_idx, z_sli, z_abs0, z_tup, z_lst, z_dic, z_dcomp, z_fstr, z_rvl, z_efld, z_eisi, z_ei1, z_ei2, z_comp, z_Tcmp, z_Tchain, z_TisN, z_TnotN, z_Tand, z_Tor, z_Tnot, z_Ttv, z_nil, z_cons, z_Fnil, z_Fcons, z_Tsn, z_Ts1, z_rng1, int2Q_1, z_rng2, z_rev, z_enm, z_zip, z_sq, z_Bnil, z_Bcons, z_asg, z_asgt, z_asg2, z_setf, z_seti, augQ_1, augQ_2, z_augn, z_augf, z_exp, z_ret, z_retN, z_if, z_for, z_whl, z_brk, z_cnt, z_pas, z_rais0, z_rais1, z_try, z_Hnil, z_Hcons, v_v0, v_vs, v_add, v_sub, v_mul, v_fdiv, v_tmul, v_smul, v_mod, v_pow, v_sadd, v_tadd, v_ladd, v_lmul, v_int, v_intb, v_abs, v_max2, v_min2, v_stri, v_strs, v_lens, v_lenm, v_len0, v_len1, v_len2, v_len3, v_len4, v_len5, v_len6, v_lenr, v_tupt, v_tupr, v_lstt, v_lstr, v_any, v_all, v_ixt, v_ixr, v_kon, v_seti, strQ_1, strQ_2, strQ_3, v_pts, v_ptn, v_sls, v_slt, v_slr, v_fld, v_setf, v_okl, v_oks, v_app, v_pop, v_dk1, v_dk2, v_get2, v_get1, v_insl, v_revl, v_upr, v_sti, v_sts, v_stc, v_rvl, v_lt, v_le, v_gt, v_ge, v_isb, v_nsb, v_eq, v_deq, v_ne, v_in, v_ni, v_eqii, v_eqss, v_eqbb, v_eqsi, v_eqis, v_eqni, v_eqin, v_eqns, v_eqsn, v_trn, v_trb, v_tri, v_trt, v_trr, v_trs, v_fms, v_fmi, v_inp, inrQ_1, inrQ_2, inrQ_3, v_inl, v_inK, v_ins, t_n, t_b, t_i, t_s, t_t, t_r, tyO_1, tyO_2, tyO_3, tyO_4, y_n, y_b, y_i, y_s, y_t, y_l, y_d, y_o, y_o1, y_o2, y_o3, y_o4, y_o5, y_o6, w_t, w_s, w_r, w_rev, w_e, w_zs, w_zt, List.map_cons, List.map_nil, List.replicate_succ, List.replicate_zero, List.cons_append, List.nil_append, List.append_nil, List.set_cons_zero, List.set_cons_succ, List.any_cons, List.any_nil, List.lookup_cons_self, meT, reduceCtorEq, decide_true, decide_false, Bool.or_false, Bool.false_or, Bool.or_true, Bool.true_or, Bool.not_true, Bool.not_false, Bool.and_true, Bool.true_and, Bool.and_false, Bool.false_and, true_and, and_true, wipeE, Option.isSome_some, Option.isSome_none, List.getElem?_concat_length, Nat.reduceBEq, Int.reduceEq, Int.reduceLT, Int.reduceLE, Int.reduceNeg, glo_0, glo_1, glo_2, glo_3, exf_0, exf_1, exf_2, exf_3, c_PastError, c_NoExpression, c_NoLine, c_NoText, d_line, $ls,*])
local macro_rules
  | `(tactic| simp!) => `(tactic| simp (implicitDefEqProofs := false) (dsimp := false) (failIfUnchanged := false) only [lz1, z_ifT, z_ifF, k_c0, k_c1, k_c2, k_c3, k_c4, k_c5, k_c6, k_few0, k_fewS, k_lkm, k_pf0, k_pfh, k_pfm, k_cls, k_clsO, k_oth1, k_oth2, k_oth3, k_oth4, k_oth5, k_oth6, k_oth7, ks_nx, ks_rt, ks_bk, ks_ct, ks_xc, kl_nx, kl_rt, kl_bk, kl_ct, kl_xc, kc_nx, kc_rt, kc_xc, kt_nx, kt_rt, kt_bk, kt_ct, kt_xc, kh_nx, kh_rt, un_n, un_s, isNon_1, isNon_2, isNon_3, isNon_4, isNon_5, isNon_6, isNon_7, boolQ_1, intQ_1, optQ_1, lstQ_1, sqQ_1, sqQ_2, cntQ_1, cntQ_2, cntQ_3, dicQ_1, insQ_1, getIx_0, getIx_1, getIx_2, getIx_3, getIx_4, getIx_5, ixrQ_1, ixrQ_2, ixrQ_3, ixrQ_4, setIx_0, setIx_1, setIx_2, bindQ_nm, bindL_0, bindL_1, bindQ_tp, z_var, z_con, z_glo, z_bin, z_neg, z_cmp, z_chain, z_isN, z_notN, z_and, z_or, z_not, z_ife, z_call, z_make, methQ_1, z_eqo, z_meth, z_fld, z_pr, z_me, z_isi, z_idx, z_sli, z_abs0, z_tup, z_lst, z_dic, z_dcomp, z_fstr, z_rvl, z_efld, z_eisi, z_ei1, z_ei2, z_comp, z_Tcmp, z_Tchain, z_TisN, z_TnotN, z_Tand, z_Tor, z_Tnot, z_Ttv, z_nil, z_cons, z_Fnil, z_Fcons, z_Tsn, z_Ts1, z_rng1, int2Q_1, z_rng2, z_rev, z_enm, z_zip, z_sq, z_Bnil, z_Bcons, z_asg, z_asgt, z_asg2, z_setf, z_seti, augQ_1, augQ_2, z_augn, z_augf, z_exp, z_ret, z_retN, z_if, z_for, z_whl, z_brk, z_cnt, z_pas, z_rais0, z_rais1, z_try, z_Hnil, z_Hcons, v_v0, v_vs, v_add, v_sub, v_mul, v_fdiv, v_tmul, v_smul, v_mod, v_pow, v_sadd, v_tadd, v_ladd, v_lmul, v_int, v_intb, v_abs, v_max2, v_min2, v_stri, v_strs, v_lens, v_lenm, v_len0, v_len1, v_len2, v_len3, v_len4, v_len5, v_len6, v_lenr, v_tupt, v_tupr, v_lstt, v_lstr, v_any, v_all, v_ixt, v_ixr, v_kon, v_seti, strQ_1, strQ_2, strQ_3, v_pts, v_ptn, v_sls, v_slt, v_slr, v_fld, v_setf, v_okl, v_oks, v_app, v_pop, v_dk1, v_dk2, v_get2, v_get1, v_insl, v_revl, v_upr, v_sti, v_sts, v_stc, v_rvl, v_lt, v_le, v_gt, v_ge, v_isb, v_nsb, v_eq, v_deq, v_ne, v_in, v_ni, v_eqii, v_eqss, v_eqbb, v_eqsi, v_eqis, v_eqni, v_eqin, v_eqns, v_eqsn, v_trn, v_trb, v_tri, v_trt, v_trr, v_trs, v_fms, v_fmi, v_inp, inrQ_1, inrQ_2, inrQ_3, v_inl, v_inK, v_ins, t_n, t_b, t_i, t_s, t_t, t_r, tyO_1, tyO_2, tyO_3, tyO_4, y_n, y_b, y_i, y_s, y_t, y_l, y_d, y_o, y_o1, y_o2, y_o3, y_o4, y_o5, y_o6, w_t, w_s, w_r, w_rev, w_e, w_zs, w_zt, List.map_cons, List.map_nil, List.replicate_succ, List.replicate_zero, List.cons_append, List.nil_append, List.append_nil, List.set_cons_zero, List.set_cons_succ, List.any_cons, List.any_nil, List.lookup_cons_self, meT, reduceCtorEq, decide_true, decide_false, Bool.or_false, Bool.false_or, Bool.or_true, Bool.true_or, Bool.not_true, Bool.not_false, Bool.and_true, Bool.true_and, Bool.and_false, Bool.false_and, true_and, and_true, wipeE, Option.isSome_some, Option.isSome_none, List.getElem?_concat_length, Nat.reduceBEq, Int.reduceEq, Int.reduceLT, Int.reduceLE, Int.reduceNeg, glo_0, glo_1, glo_2, glo_3, exf_0, exf_1, exf_2, exf_3, c_PastError, c_NoExpression, c_NoLine, c_NoText, d_line])
inductive It where
  | ex (e : Ex) (n : Nat) | sg (c : Nat)
abbrev wExpr : List Nat := [101, 120, 112, 114]
def It.d : It → D
  | .ex e n => .tup [.str wExpr, e.d, .int n]
  | .sg c => .tup [.str [c], .int 0, .int 0]
def It.tx : It → List Nat
  | .ex e _ => e.tx
  | .sg c => [c]
def It.ok : It → Prop
  | .ex e n => e.ok n ∧ n ≤ 6
  | .sg _ => True
def txs : List It → List Nat
  | [] => []
  | i :: r => i.tx ++ txs r
theorem txs_app {a b : List It} : txs (a ++ b) = txs a ++ txs b := by
  induction a with
  | nil => rfl
  | cons i r ih => rw [List.cons_append, txs, txs, ih, List.append_assoc]
def joinL4 (l : List It) : Option It := match l with
  | [.sg c, .ex a n, .sg s, .ex b m] => if c = 40 ∧ s ∈ signs ∧ 1 + max n m ≤ 6 then some (.ex (.op s a b) (1 + max n m)) else none
  | _ => none
def stepL (σ : List It) (c : Nat) : Option (List It) :=
  if c ∈ regs then some (σ ++ [.ex (.reg c) 0])
  else if 48 ≤ c ∧ c ≤ 57 then some (σ ++ [.ex (.num ((c : Int) - 48)) 0])
  else if c = 41 then (joinL4 (σ.drop (σ.length - 4))).map fun i => σ.take (σ.length - 4) ++ [i]
  else if c = 40 ∧ 40 < σ.length then none
  else some (σ ++ [.sg c])
def runL : List It → List Nat → Option (List It)
  | σ, [] => some σ
  | σ, c :: r => (stepL σ c).bind fun τ => runL τ r
def fin1 : List It → Option Ex
  | [.ex e _] => some e
  | _ => none
def readL (x : List Nat) : Option Ex := (runL [] x).bind fin1
theorem joinL4_is {l : List It} {i : It} (h : joinL4 l = some i) (ok : ∀ j ∈ l, j.ok) : txs l ++ [41] = i.tx ∧ i.ok := by
  unfold joinL4 at h
  split at h
  · rename_i c a n s b m
    split at h
    · rename_i hc
      cases h
      obtain ⟨rfl, hs, hm⟩ := hc
      have oa := ok (.ex a n) (by simp)
      have ob := ok (.ex b m) (by simp)
      refine ⟨by simp [txs, It.tx, Ex.tx], ?_, hm⟩
      rw [Nat.add_comm]
      exact ⟨hs, Ex.ok_mono (Nat.le_max_left _ _) oa.1, Ex.ok_mono (Nat.le_max_right _ _) ob.1⟩
    · cases h
  · cases h
theorem stepL_is {σ τ : List It} {c : Nat} (h : stepL σ c = some τ) (ok : ∀ j ∈ σ, j.ok) : txs σ ++ [c] = txs τ ∧ ∀ j ∈ τ, j.ok := by
  unfold stepL at h
  have app : ∀ i : It, i.ok → ∀ j ∈ σ ++ [i], j.ok := fun i oi j m => (List.mem_append.mp m).elim (ok j) fun z => by rw [List.mem_singleton.mp z]; exact oi
  split at h
  · rename_i hc
    cases h
    exact ⟨by rw [txs_app]; rfl, app _ ⟨hc, by omega⟩⟩
  · split at h
    · rename_i hc
      cases h
      refine ⟨?_, app _ ⟨by show (0 : Int) ≤ _ ∧ _ ≤ (9 : Int); omega, by omega⟩⟩
      rw [txs_app]
      show txs σ ++ [c] = txs σ ++ [48 + ((c : Int) - 48).toNat]
      congr 2
      omega
    · split at h
      · rename_i hc
        subst hc
        obtain ⟨i, hi, rfl⟩ := Option.map_eq_some_iff.mp h
        have ji := joinL4_is hi fun j m => ok j (List.mem_of_mem_drop m)
        refine ⟨?_, fun j m => (List.mem_append.mp m).elim (fun z => ok j (List.mem_of_mem_take z)) fun z => by rw [List.mem_singleton.mp z]; exact ji.2⟩
        rw [txs_app]
        show _ = _ ++ (i.tx ++ [])
        rw [List.append_nil, ← ji.1, ← List.append_assoc, ← txs_app, List.take_append_drop]
      · split at h
        · cases h
        · cases h
          exact ⟨by rw [txs_app]; rfl, app _ trivial⟩
theorem runL_is : ∀ {x : List Nat} {σ τ : List It}, runL σ x = some τ → (∀ j ∈ σ, j.ok) → txs σ ++ x = txs τ ∧ ∀ j ∈ τ, j.ok
  | [], σ, τ, h, ok => by cases h; exact ⟨List.append_nil _, ok⟩
  | c :: r, σ, τ, h, ok => by
    obtain ⟨ρ, h1, h2⟩ := Option.bind_eq_some_iff.mp h
    have a := stepL_is h1 ok
    have b := runL_is h2 a.2
    refine ⟨?_, b.2⟩
    rw [← b.1, ← a.1, List.append_assoc]
    rfl
def Ex.dp : Ex → Nat
  | .num _ => 0
  | .reg _ => 0
  | .op _ a b => 1 + max a.dp b.dp
theorem dp_le : ∀ {n : Nat} {e : Ex}, e.ok n → e.dp ≤ n
  | n, .num _, _ => Nat.zero_le _
  | n, .reg _, _ => Nat.zero_le _
  | 0, .op _ _ _, h => by cases h
  | n + 1, .op s a b, h => by
    have := dp_le h.2.1
    have := dp_le h.2.2
    show 1 + max a.dp b.dp ≤ n + 1
    omega
theorem drop4 {σ : List It} {a b c d : It} : (σ ++ [a] ++ [b] ++ [c] ++ [d]).drop ((σ ++ [a] ++ [b] ++ [c] ++ [d]).length - 4) = [a, b, c, d] ∧ (σ ++ [a] ++ [b] ++ [c] ++ [d]).take ((σ ++ [a] ++ [b] ++ [c] ++ [d]).length - 4) = σ := by
  have e : σ ++ [a] ++ [b] ++ [c] ++ [d] = σ ++ [a, b, c, d] := by simp
  have l : (σ ++ [a, b, c, d]).length - 4 = σ.length := by simp
  rw [e, l]
  exact ⟨List.drop_left, List.take_left⟩
theorem runL_tx : ∀ {n : Nat} {e : Ex} {σ : List It} {r : List Nat}, e.ok n → n ≤ 6 → σ.length + 3 * e.dp ≤ 40 → runL σ (e.tx ++ r) = runL (σ ++ [.ex e e.dp]) r
  | n, .reg c, σ, r, h, _, _ => by
    have h : c ∈ regs := by cases n <;> exact h
    show (stepL σ c).bind _ = _
    unfold stepL
    rw [if_pos h]
    rfl
  | n, .num i, σ, r, h, _, _ => by
    have h : 0 ≤ i ∧ i ≤ 9 := by cases n <;> exact h
    show (stepL σ (48 + i.toNat)).bind _ = _
    unfold stepL
    rw [if_neg (by simp [regs]; omega), if_pos (by omega), show ((48 + i.toNat : Nat) : Int) - 48 = i by omega]
    rfl
  | 0, .op _ _ _, _, _, h, _, _ => by cases h
  | n + 1, .op s a b, σ, r, h, n6, l => by
    obtain ⟨hs, ha, hb⟩ := h
    have l : σ.length + 3 * (1 + max a.dp b.dp) ≤ 40 := l
    have da := dp_le ha
    have db := dp_le hb
    have e : (Ex.op s a b).tx ++ r = 40 :: (a.tx ++ (s :: (b.tx ++ (41 :: r)))) := by simp [Ex.tx]
    have hs' : s = 43 ∨ s = 45 ∨ s = 42 ∨ s = 61 ∨ s = 60 := by simpa [signs] using hs
    have s1 : stepL σ 40 = some (σ ++ [.sg 40]) := by
      unfold stepL
      rw [if_neg (by decide), if_neg (by omega), if_neg (by omega), if_neg (by omega)]
    have s2 : stepL (σ ++ [.sg 40] ++ [.ex a a.dp]) s = some (σ ++ [.sg 40] ++ [.ex a a.dp] ++ [.sg s]) := by
      unfold stepL
      rw [if_neg (by rcases hs' with z | z | z | z | z <;> subst z <;> decide), if_neg (by omega), if_neg (by omega), if_neg (by omega)]
    have d4 := drop4 (σ := σ) (a := .sg 40) (b := .ex a a.dp) (c := .sg s) (d := .ex b b.dp)
    have s3 : stepL (σ ++ [.sg 40] ++ [.ex a a.dp] ++ [.sg s] ++ [.ex b b.dp]) 41 = some (σ ++ [.ex (.op s a b) (1 + max a.dp b.dp)]) := by
      unfold stepL
      rw [if_neg (by decide), if_neg (by omega), if_pos rfl, d4.1, d4.2]
      show ((if 40 = 40 ∧ s ∈ signs ∧ 1 + max a.dp b.dp ≤ 6 then some (It.ex (.op s a b) (1 + max a.dp b.dp)) else none).map _) = _
      rw [if_pos ⟨rfl, hs, by omega⟩]
      rfl
    rw [e]
    show (stepL σ 40).bind _ = _
    rw [s1]
    show runL (σ ++ [.sg 40]) (a.tx ++ _) = _
    rw [runL_tx ha (by omega) (by rw [List.length_append]; show σ.length + 1 + _ ≤ _; omega)]
    show (stepL _ s).bind _ = _
    rw [s2]
    show runL _ (b.tx ++ _) = _
    rw [runL_tx hb (by omega) (by simp only [List.length_append, List.length_cons, List.length_nil]; omega)]
    show (stepL _ 41).bind _ = _
    rw [s3]
    rfl
theorem readL_iff {x : List Nat} {e : Ex} : readL x = some e ↔ prs 6 x = some (e, []) := by
  constructor
  · intro h
    obtain ⟨τ, h1, h2⟩ := Option.bind_eq_some_iff.mp h
    have r := runL_is h1 fun j m => by cases m
    unfold fin1 at h2
    split at h2
    · rename_i e' n
      cases h2
      have o := r.2 (.ex e n) List.mem_cons_self
      have t : x = e.tx ++ [] := r.1
      rw [t]
      exact prs_tx (Ex.ok_mono o.2 o.1)
    · cases h2
  · intro h
    have p := prs_is h
    have d := dp_le p.2
    unfold readL
    rw [p.1, runL_tx p.2 (Nat.le_refl _) (by show 0 + 3 * _ ≤ 40; omega)]
    rfl
end Y.K_k14
set_option linter.all false
set_option maxHeartbeats 1600000
set_option maxRecDepth 100000
namespace Y.K_k14
open Y PySem
local macro_rules
  | `(tactic| simp! [$ls,*]) => `(tactic| simp (implicitDefEqProofs := false) (dsimp := false) (failIfUnchanged := false) only [lz1, z_ifT, z_ifF, k_c0, k_c1, k_c2, k_c3, k_c4, k_c5, k_c6, k_few0, k_fewS, k_lkm, k_pf0, k_pfh, k_pfm, k_cls, k_clsO, k_oth1, k_oth2, k_oth3, k_oth4, k_oth5, k_oth6, k_oth7, ks_nx, ks_rt, ks_bk, ks_ct, ks_xc, kl_nx, kl_rt, kl_bk, kl_ct, kl_xc, kc_nx, kc_rt, kc_xc, kt_nx, kt_rt, kt_bk, kt_ct, kt_xc, kh_nx, kh_rt, un_n, un_s, isNon_1, isNon_2, isNon_3, isNon_4, isNon_5, isNon_6, isNon_7, boolQ_1, intQ_1, optQ_1, lstQ_1, sqQ_1, sqQ_2, cntQ_1, cntQ_2, cntQ_3, dicQ_1, insQ_1, getIx_0, getIx_1, getIx_2, getIx_3, getIx_4, getIx_5, ixrQ_1, ixrQ_2, ixrQ_3, ixrQ_4, setIx_0, setIx_1, setIx_2, bindQ_nm, bindL_0, bindL_1, bindQ_tp, z_var, z_con, z_glo, z_bin, z_neg, z_cmp, z_chain, z_isN, z_notN, z_and, z_or, z_not, z_ife, z_call, z_make, methQ_1, z_eqo, z_meth, z_fld, z_pr, z_me, z_isi, z_idx, z_sli, z_abs0, z_tup, z_lst, z_dic, z_dcomp, z_fstr, z_rvl, z_efld, z_eisi, z_ei1, z_ei2, z_comp, z_Tcmp, z_Tchain, z_TisN, z_TnotN, z_Tand, z_Tor, z_Tnot, z_Ttv, z_nil, z_cons, z_Fnil, z_Fcons, z_Tsn, z_Ts1, z_rng1, int2Q_1, z_rng2, z_rev, z_enm, z_zip, z_sq, z_Bnil, z_Bcons, z_asg, z_asgt, z_asg2, z_setf, z_seti, augQ_1, augQ_2, z_augn, z_augf, z_exp, z_ret, z_retN, z_if, z_for, z_whl, z_brk, z_cnt, z_pas, z_rais0, z_rais1, z_try, z_Hnil, z_Hcons, v_v0, v_vs, v_add, v_sub, v_mul, v_fdiv, v_tmul, v_smul, v_mod, v_pow, v_sadd, v_tadd, v_ladd, v_lmul, v_int, v_intb, v_abs, v_max2, v_min2, v_stri, v_strs, v_lens, v_lenm, v_len0, v_len1, v_len2, v_len3, v_len4, v_len5, v_len6, v_lenr, v_tupt, v_tupr, v_lstt, v_lstr, v_any, v_all, v_ixt, v_ixr, v_kon, v_seti, strQ_1, strQ_2, strQ_3, v_pts, v_ptn, v_sls, v_slt, v_slr, v_fld, v_setf, v_okl, v_oks, v_app, v_pop, v_dk1, v_dk2, v_get2, v_get1, v_insl, v_revl, v_upr, v_sti, v_sts, v_stc, v_rvl, v_lt, v_le, v_gt, v_ge, v_isb, v_nsb, v_eq, v_deq, v_ne, v_in, v_ni, v_eqii, v_eqss, v_eqbb, v_eqsi, v_eqis, v_eqni, v_eqin, v_eqns, v_eqsn, v_trn, v_trb, v_tri, v_trt, v_trr, v_trs, v_fms, v_fmi, v_inp, inrQ_1, inrQ_2, inrQ_3, v_inl, v_inK, v_ins, t_n, t_b, t_i, t_s, t_t, t_r, tyO_1, tyO_2, tyO_3, tyO_4, y_n, y_b, y_i, y_s, y_t, y_l, y_d, y_o, y_o1, y_o2, y_o3, y_o4, y_o5, y_o6, w_t, w_s, w_r, w_rev, w_e, w_zs, w_zt, List.map_cons, List.map_nil, List.replicate_succ, List.replicate_zero, List.cons_append, List.nil_append, List.append_nil, List.set_cons_zero, List.set_cons_succ, List.any_cons, List.any_nil, List.lookup_cons_self, meT, reduceCtorEq, decide_true, decide_false, Bool.or_false, Bool.false_or, Bool.or_true, Bool.true_or, Bool.not_true, Bool.not_false, Bool.and_true, Bool.true_and, Bool.and_false, Bool.false_and, true_and, and_true, wipeE, Option.isSome_some, Option.isSome_none, List.getElem?_concat_length, Nat.reduceBEq, Int.reduceEq, Int.reduceLT, Int.reduceLE, Int.reduceNeg, glo_0, glo_1, glo_2, glo_3, exf_0, exf_1, exf_2, exf_3, c_PastError, c_NoExpression, c_NoLine, c_NoText, d_line, $ls,*])
local macro_rules
  | `(tactic| simp!) => `(tactic| simp (implicitDefEqProofs := false) (dsimp := false) (failIfUnchanged := false) only [lz1, z_ifT, z_ifF, k_c0, k_c1, k_c2, k_c3, k_c4, k_c5, k_c6, k_few0, k_fewS, k_lkm, k_pf0, k_pfh, k_pfm, k_cls, k_clsO, k_oth1, k_oth2, k_oth3, k_oth4, k_oth5, k_oth6, k_oth7, ks_nx, ks_rt, ks_bk, ks_ct, ks_xc, kl_nx, kl_rt, kl_bk, kl_ct, kl_xc, kc_nx, kc_rt, kc_xc, kt_nx, kt_rt, kt_bk, kt_ct, kt_xc, kh_nx, kh_rt, un_n, un_s, isNon_1, isNon_2, isNon_3, isNon_4, isNon_5, isNon_6, isNon_7, boolQ_1, intQ_1, optQ_1, lstQ_1, sqQ_1, sqQ_2, cntQ_1, cntQ_2, cntQ_3, dicQ_1, insQ_1, getIx_0, getIx_1, getIx_2, getIx_3, getIx_4, getIx_5, ixrQ_1, ixrQ_2, ixrQ_3, ixrQ_4, setIx_0, setIx_1, setIx_2, bindQ_nm, bindL_0, bindL_1, bindQ_tp, z_var, z_con, z_glo, z_bin, z_neg, z_cmp, z_chain, z_isN, z_notN, z_and, z_or, z_not, z_ife, z_call, z_make, methQ_1, z_eqo, z_meth, z_fld, z_pr, z_me, z_isi, z_idx, z_sli, z_abs0, z_tup, z_lst, z_dic, z_dcomp, z_fstr, z_rvl, z_efld, z_eisi, z_ei1, z_ei2, z_comp, z_Tcmp, z_Tchain, z_TisN, z_TnotN, z_Tand, z_Tor, z_Tnot, z_Ttv, z_nil, z_cons, z_Fnil, z_Fcons, z_Tsn, z_Ts1, z_rng1, int2Q_1, z_rng2, z_rev, z_enm, z_zip, z_sq, z_Bnil, z_Bcons, z_asg, z_asgt, z_asg2, z_setf, z_seti, augQ_1, augQ_2, z_augn, z_augf, z_exp, z_ret, z_retN, z_if, z_for, z_whl, z_brk, z_cnt, z_pas, z_rais0, z_rais1, z_try, z_Hnil, z_Hcons, v_v0, v_vs, v_add, v_sub, v_mul, v_fdiv, v_tmul, v_smul, v_mod, v_pow, v_sadd, v_tadd, v_ladd, v_lmul, v_int, v_intb, v_abs, v_max2, v_min2, v_stri, v_strs, v_lens, v_lenm, v_len0, v_len1, v_len2, v_len3, v_len4, v_len5, v_len6, v_lenr, v_tupt, v_tupr, v_lstt, v_lstr, v_any, v_all, v_ixt, v_ixr, v_kon, v_seti, strQ_1, strQ_2, strQ_3, v_pts, v_ptn, v_sls, v_slt, v_slr, v_fld, v_setf, v_okl, v_oks, v_app, v_pop, v_dk1, v_dk2, v_get2, v_get1, v_insl, v_revl, v_upr, v_sti, v_sts, v_stc, v_rvl, v_lt, v_le, v_gt, v_ge, v_isb, v_nsb, v_eq, v_deq, v_ne, v_in, v_ni, v_eqii, v_eqss, v_eqbb, v_eqsi, v_eqis, v_eqni, v_eqin, v_eqns, v_eqsn, v_trn, v_trb, v_tri, v_trt, v_trr, v_trs, v_fms, v_fmi, v_inp, inrQ_1, inrQ_2, inrQ_3, v_inl, v_inK, v_ins, t_n, t_b, t_i, t_s, t_t, t_r, tyO_1, tyO_2, tyO_3, tyO_4, y_n, y_b, y_i, y_s, y_t, y_l, y_d, y_o, y_o1, y_o2, y_o3, y_o4, y_o5, y_o6, w_t, w_s, w_r, w_rev, w_e, w_zs, w_zt, List.map_cons, List.map_nil, List.replicate_succ, List.replicate_zero, List.cons_append, List.nil_append, List.append_nil, List.set_cons_zero, List.set_cons_succ, List.any_cons, List.any_nil, List.lookup_cons_self, meT, reduceCtorEq, decide_true, decide_false, Bool.or_false, Bool.false_or, Bool.or_true, Bool.true_or, Bool.not_true, Bool.not_false, Bool.and_true, Bool.true_and, Bool.and_false, Bool.false_and, true_and, and_true, wipeE, Option.isSome_some, Option.isSome_none, List.getElem?_concat_length, Nat.reduceBEq, Int.reduceEq, Int.reduceLT, Int.reduceLE, Int.reduceNeg, glo_0, glo_1, glo_2, glo_3, exf_0, exf_1, exf_2, exf_3, c_PastError, c_NoExpression, c_NoLine, c_NoText, d_line])
theorem in_regs : ∀ c, c < 128 → (!(Builtin.Str.occurrences ⟨([97, 98, 99, 100, 120] : List Nat).toArray⟩ ⟨[c].toArray⟩ 0 ([97, 98, 99, 100, 120] : List Nat).length 1).isEmpty) = decide (c ∈ regs) := by decide +kernel
theorem in_digs : ∀ c, c < 128 → (!(Builtin.Str.occurrences ⟨([48, 49, 50, 51, 52, 53, 54, 55, 56, 57] : List Nat).toArray⟩ ⟨[c].toArray⟩ 0 ([48, 49, 50, 51, 52, 53, 54, 55, 56, 57] : List Nat).length 1).isEmpty) = decide (48 ≤ c ∧ c ≤ 57) := by decide +kernel
theorem cut_last {α : Type} {xs : List α} : cutL xs (some (-4)) none = xs.drop (xs.length - 4) := by
  unfold cutL
  have e1 : cutIx xs.length 0 (some (-4)) = xs.length - 4 := by
    show HT.sIx _ _ _ = _
    simp [HT.sIx]
    try omega
  rw [e1]
  show (xs.drop (xs.length - 4)).take (xs.length - (xs.length - 4)) = _
  exact List.take_of_length_le (by rw [List.length_drop]; omega)
theorem cut_init {α : Type} {xs : List α} : cutL xs none (some (-4)) = xs.take (xs.length - 4) := by
  unfold cutL
  have e1 : cutIx xs.length xs.length (some (-4)) = xs.length - 4 := by
    show HT.sIx _ _ _ = _
    simp [HT.sIx]
    try omega
  rw [e1]
  rfl
theorem step_no {σ : List It} {c : Nat} {r : List Nat} (h : stepL σ c = none) : (runL σ (c :: r)).bind fin1 = none := by
  show ((stepL σ c).bind _).bind _ = none
  rw [h]
  rfl
theorem step_go {σ τ : List It} {c : Nat} {r : List Nat} (h : stepL σ c = some τ) : (runL σ (c :: r)).bind fin1 = (runL τ r).bind fin1 := by
  show ((stepL σ c).bind _).bind _ = _
  rw [h]
  rfl
theorem gb1 {s : Store} {x : O} : (s ++ [x])[s.length]? = some x := get_snoc _ _
theorem gb2 {s : Store} {x y : O} : (s ++ [x] ++ [y])[s.length]? = some x := get_app _ (get_snoc _ _)
theorem gb3 {s : Store} {x y z : O} : (s ++ [x] ++ [y] ++ [z])[s.length]? = some x := get_app _ gb2
theorem It_ex {e : Ex} {n : Nat} : (It.ex e n).d = .tup [.str wExpr, e.d, .int n] := rfl
theorem It_sg {c : Nat} : (It.sg c).d = .tup [.str [c], .int 0, .int 0] := rfl
theorem len4 {a b c d : D} : decide ((([a, b, c, d] : List D).length : Int) < 4) = false := decide_eq_false (by simp)
theorem len1 {a : D} : decide ((([a] : List D).length : Int) = 1) = true := decide_eq_true (by simp)
section
variable {k : Nat} {st : Store} {Q : QE} {X : QX}
theorem lread {x : List Nat} (cs : ∀ c ∈ x, c < 128) (lx : x.length ≤ 100000) (hn : readL x = none → ∀ s, Keep st s → Q .non s) (hs : ∀ e, readL x = some e → ∀ s, Keep st s → Q (.tup [e.d]) s) : Call T (k + 1) n__law_read [.str x] st Q X := by
  refine call_z f__law_read.fn rfl rfl ?_
  show wpB T (Call T k) none b__law_read [some (.str x), none, none, none, none] st _
  unfold b__law_read
  simp!
  refine for_s (fun r env s => ∃ (σ : List It) (xs : List Nat) (g : Nat) (q2 q3 q4 : Option D), r = xs.map (fun c => D.str [c]) ∧ (∀ c ∈ xs, c < 128) ∧ (runL σ xs).bind fin1 = readL x ∧ σ.length + xs.length ≤ x.length ∧ Keep st s ∧ st.length ≤ g ∧ s[g]? = some (.lst (σ.map It.d)) ∧ env = [some (.str x), some (.ref g), q2, q3, q4]) ⟨[], x, st.length, none, none, none, rfl, cs, rfl, by simp, .new _ _, Nat.le_refl _, get_snoc _ _, rfl⟩ (fun d r env s N ⟨σ, xs, g, q2, q3, q4, b1, b2, b3, b4, b5, b6, b7, b8⟩ hN => ?_) (fun env s ⟨σ, xs, g, q2, q3, q4, b1, b2, b3, b4, b5, b6, b7, b8⟩ => ?_)
  · subst b8
    cases xs with
    | nil => cases b1
    | cons c xs =>
      cases b1
      have c128 := b2 c List.mem_cons_self
      have rest : ∀ y ∈ xs, y < 128 := fun y m => b2 y (List.mem_cons_of_mem _ m)
      rw [List.length_cons] at b4
      have ll : (σ.map It.d).length < line := lt_line (by rw [List.length_map]; omega)
      have push : ∀ i : It, (runL (σ ++ [i]) xs).bind fin1 = readL x → ∀ q2' q3' q4', N [some (.str x), some (.ref g), q2', q3', q4'] (s.set g (.lst (σ.map It.d ++ [i.d]))) := fun i e q2' q3' q4' => hN _ _ ⟨σ ++ [i], xs, g, _, _, _, rfl, rest, e, by rw [List.length_append]; show σ.length + 1 + _ ≤ _; omega, b5.set _ b6, b6, by rw [set_get b7]; simp, rfl⟩
      have i1 := in_regs c c128
      by_cases h1 : c ∈ regs
      · rw [decide_eq_true h1] at i1
        simp! [i1, b7]
        refine ⟨ll, ?_⟩
        exact push (.ex (.reg c) 0) (by rw [← b3, step_go (by unfold stepL; rw [if_pos h1])]) _ _ _
      rw [decide_eq_false h1] at i1
      have i2 := in_digs c c128
      by_cases h2 : 48 ≤ c ∧ c ≤ 57
      · rw [decide_eq_true h2] at i2
        simp! [i1, i2, b7]
        refine go_dig h2 ?_
        simp! [b7]
        refine ⟨ll, ?_⟩
        exact push (.ex (.num ((c : Int) - 48)) 0) (by rw [← b3, step_go (by unfold stepL; rw [if_neg h1, if_pos h2])]) _ _ _
      rw [decide_eq_false h2] at i2
      by_cases h3 : c = 41
      · subst h3
        have st4 : stepL σ 41 = (joinL4 (σ.drop (σ.length - 4))).map fun i => σ.take (σ.length - 4) ++ [i] := by
          unfold stepL
          rw [if_neg h1, if_neg h2, if_pos rfl]
        have ec : cutL (σ.map It.d) (some (-4)) none = (σ.drop (σ.length - 4)).map It.d := by rw [cut_last, List.length_map, List.map_drop]
        have ei : cutL (σ.map It.d) none (some (-4)) = (σ.take (σ.length - 4)).map It.d := by rw [cut_init, List.length_map, List.map_take]
        have Ll : (σ.drop (σ.length - 4)).length ≤ 4 := by rw [List.length_drop]; omega
        have Tl : (σ.take (σ.length - 4)).length + 4 ≤ σ.length ∨ (σ.drop (σ.length - 4)).length < 4 := by rw [List.length_take, List.length_drop]; omega
        generalize σ.drop (σ.length - 4) = L at st4 ec Ll Tl
        generalize σ.take (σ.length - 4) = R at st4 ei Tl
        have no : joinL4 L = none → ∀ s', Keep st s' → Q .non s' := fun z => hn (by rw [← b3, step_no (by rw [st4, z]; rfl)])
        by_cases l4 : L.length = 4
        · match L, l4, no, st4, ec, Tl with
          | [j0, j1, j2, j3], _, no, st4, ec, Tl =>
            have ec : cutL (σ.map It.d) (some (-4)) none = [j0.d, j1.d, j2.d, j3.d] := ec
            have kk : Keep st (s ++ [O.lst [j0.d, j1.d, j2.d, j3.d]]) := b5.app _
            cases j0 with
            | ex e0 n0 =>
              have tt : decide (wExpr = [40]) = false := by decide
              simp! [i1, i2, b7, ec, gb1, gb2, len4, It_ex, It_sg, tt]
              exact no rfl _ kk
            | sg c0 =>
              by_cases hc0 : c0 = 40
              · subst hc0
                cases j1 with
                | sg c1 =>
                  have tt : decide (([c1] : List Nat) = wExpr) = false := decide_eq_false (by simp)
                  simp! [i1, i2, b7, ec, gb1, gb2, len4, It_ex, It_sg, tt]
                  exact no rfl _ kk
                | ex a n =>
                  cases j3 with
                  | sg c3 =>
                    have tt : decide (([c3] : List Nat) = wExpr) = false := decide_eq_false (by simp)
                    simp! [i1, i2, b7, ec, gb1, gb2, len4, It_ex, It_sg, tt]
                    exact no (by cases j2 <;> rfl) _ kk
                  | ex b m =>
                    cases j2 with
                    | ex e2 n2 =>
                      have tt : inD (.str wExpr) [.str [43], .str [45], .str [42], .str [61], .str [60]] = false := by decide
                      simp! [i1, i2, b7, ec, gb1, gb2, len4, It_ex, It_sg, tt]
                      refine ⟨rfl, rfl, ?_⟩
                      exact no rfl _ (kk.app _)
                    | sg z =>
                      have jj : joinL4 [.sg 40, .ex a n, .sg z, .ex b m] = if 40 = 40 ∧ z ∈ signs ∧ 1 + max n m ≤ 6 then some (.ex (.op z a b) (1 + max n m)) else none := rfl
                      by_cases hz : z ∈ signs
                      · have tz := decide_eq_true hz
                        have mx : (if (m : Int) > (n : Int) then (m : Int) else n) = ((max n m : Nat) : Int) := by split <;> omega
                        simp! [i1, i2, b7, ec, gb1, gb2, len4, It_ex, It_sg, signs_in, tz]
                        refine ⟨rfl, rfl, ?_⟩
                        rw [mx]
                        by_cases h6 : 1 + max n m ≤ 6
                        · have t6 : decide ((6 : Int) < 1 + ((max n m : Nat) : Int)) = false := decide_eq_false (by omega)
                          rw [if_pos ⟨rfl, hz, h6⟩] at jj
                          have b72 := get_app [O.lst [D.str [43], .str [45], .str [42], .str [61], .str [60]]] (get_app [O.lst [.tup [.str [40], .int 0, .int 0], .tup [.str wExpr, a.d, .int n], .tup [.str [z], .int 0, .int 0], .tup [.str wExpr, b.d, .int m]]] b7)
                          have Rl : R.length + 4 ≤ σ.length := by rcases Tl with q | q; exact q; simp at q
                          have Rm : (R.map It.d).length < line := lt_line (by rw [List.length_map]; omega)
                          simp! [t6, b72, ei, gb1, gb2, gb3]
                          refine ⟨Rm, ?_⟩
                          refine hN _ _ ⟨R ++ [.ex (.op z a b) (1 + max n m)], xs, _, _, _, _, rfl, rest, ?_, ?_, ?_, ?_, ?_, rfl⟩
                          · rw [← b3, step_go (by rw [st4, jj]; rfl)]
                          · rw [List.length_append]
                            show R.length + 1 + _ ≤ _
                            omega
                          · exact (((b5.app _).app _).app _).set _ (by simp only [List.length_append]; have := b5.len; omega)
                          · simp only [List.length_append]
                            have := b5.len
                            omega
                          · rw [set_get gb1]
                            simp [It_ex, Ex.d]
                        · have t6 : decide ((6 : Int) < 1 + ((max n m : Nat) : Int)) = true := decide_eq_true (by omega)
                          rw [if_neg fun q => h6 q.2.2] at jj
                          simp! [t6]
                          exact no jj _ (kk.app _)
                      · have tz := decide_eq_false hz
                        rw [if_neg fun q => hz q.2.1] at jj
                        simp! [i1, i2, b7, ec, gb1, gb2, len4, It_ex, It_sg, signs_in, tz]
                        refine ⟨rfl, rfl, ?_⟩
                        exact no jj _ (kk.app _)
              · have tt : decide (([c0] : List Nat) = [40]) = false := decide_eq_false (by simpa using hc0)
                simp! [i1, i2, b7, ec, gb1, gb2, len4, It_ex, It_sg, tt]
                refine no ?_ _ kk
                show (match [It.sg c0, j1, j2, j3] with
                  | [.sg c, .ex a n, .sg s, .ex b m] => if c = 40 ∧ s ∈ signs ∧ 1 + max n m ≤ 6 then some (It.ex (.op s a b) (1 + max n m)) else none
                  | _ => none) = none
                cases j1 <;> cases j2 <;> cases j3 <;> first | rfl | exact if_neg fun q => hc0 q.1
        · have t4 : decide (((L.map It.d).length : Int) < 4) = true := decide_eq_true (by rw [List.length_map]; omega)
          have e3 := get_snoc s (O.lst (L.map It.d))
          simp! [i1, i2, b7, ec, e3, t4]
          refine no ?_ _ (b5.app _)
          match L, l4 with
          | [], _ => rfl
          | [a], _ => cases a <;> rfl
          | [a, b], _ => cases a <;> cases b <;> rfl
          | [a, b, c], _ => cases a <;> cases b <;> cases c <;> rfl
          | [_, _, _, _], l => exact absurd rfl l
          | a :: b :: c :: d :: e :: r, _ => cases a <;> cases b <;> cases c <;> cases d <;> rfl
      have t3 : decide (([c] : List Nat) = [41]) = false := decide_eq_false (by simpa using h3)
      by_cases h4 : c = 40
      · subst h4
        by_cases h5 : 40 < σ.length
        · have t5 : decide ((40 : Int) < ((σ.map It.d).length : Int)) = true := decide_eq_true (by rw [List.length_map]; omega)
          simp! [i1, i2, t3, b7, t5]
          exact hn (by rw [← b3, step_no (by unfold stepL; rw [if_neg h1, if_neg h2, if_neg h3, if_pos ⟨rfl, h5⟩])]) _ b5
        · have t5 : decide ((40 : Int) < ((σ.map It.d).length : Int)) = false := decide_eq_false (by rw [List.length_map]; omega)
          simp! [i1, i2, t3, b7, t5]
          refine ⟨ll, ?_⟩
          exact push (.sg 40) (by rw [← b3, step_go (by unfold stepL; rw [if_neg h1, if_neg h2, if_neg h3, if_neg (by omega)])]) _ _ _
      · have t4 : decide (([c] : List Nat) = [40]) = false := decide_eq_false (by simpa using h4)
        simp! [i1, i2, t3, t4, b7]
        refine ⟨ll, ?_⟩
        exact push (.sg c) (by rw [← b3, step_go (by unfold stepL; rw [if_neg h1, if_neg h2, if_neg h3, if_neg (by omega)])]) _ _ _
  · subst b8
    cases xs with
    | cons c xs => cases b1
    | nil =>
      have b3 : fin1 σ = readL x := b3
      match σ, b3, b7 with
      | [], b3, b7 =>
        have b7 : s[g]? = some (.lst []) := b7
        simp! [b7]
        exact hn b3.symm _ b5
      | [.ex e n], b3, b7 =>
        have b7 : s[g]? = some (.lst [.tup [.str wExpr, e.d, .int n]]) := b7
        simp! [b7, len1]
        exact hs e b3.symm _ b5
      | [.sg c], b3, b7 =>
        have b7 : s[g]? = some (.lst [.tup [.str [c], .int 0, .int 0]]) := b7
        have t : decide (([c] : List Nat) = wExpr) = false := decide_eq_false (by simp)
        simp! [b7, len1, t]
        exact hn b3.symm _ b5
      | a :: b :: r, b3, b7 =>
        have t : decide ((((a :: b :: r).map It.d).length : Int) = 1) = false := decide_eq_false (by simp; omega)
        have b3 : none = readL x := by rw [← b3]; cases a <;> rfl
        simp! [b7, t]
        exact hn b3.symm _ b5
end
end Y.K_k14
set_option linter.all false
set_option maxHeartbeats 1600000
set_option maxRecDepth 100000
namespace Y.K_k14
open Y PySem
local macro_rules
  | `(tactic| simp! [$ls,*]) => `(tactic| simp (implicitDefEqProofs := false) (dsimp := false) (failIfUnchanged := false) only [lz1, z_ifT, z_ifF, k_c0, k_c1, k_c2, k_c3, k_c4, k_c5, k_c6, k_few0, k_fewS, k_lkm, k_pf0, k_pfh, k_pfm, k_cls, k_clsO, k_oth1, k_oth2, k_oth3, k_oth4, k_oth5, k_oth6, k_oth7, ks_nx, ks_rt, ks_bk, ks_ct, ks_xc, kl_nx, kl_rt, kl_bk, kl_ct, kl_xc, kc_nx, kc_rt, kc_xc, kt_nx, kt_rt, kt_bk, kt_ct, kt_xc, kh_nx, kh_rt, un_n, un_s, isNon_1, isNon_2, isNon_3, isNon_4, isNon_5, isNon_6, isNon_7, boolQ_1, intQ_1, optQ_1, lstQ_1, sqQ_1, sqQ_2, cntQ_1, cntQ_2, cntQ_3, dicQ_1, insQ_1, getIx_0, getIx_1, getIx_2, getIx_3, getIx_4, getIx_5, ixrQ_1, ixrQ_2, ixrQ_3, ixrQ_4, setIx_0, setIx_1, setIx_2, bindQ_nm, bindL_0, bindL_1, bindQ_tp, z_var, z_con, z_glo, z_bin, z_neg, z_cmp, z_chain, z_isN, z_notN, z_and, z_or, z_not, z_ife, z_call, z_make, methQ_1, z_eqo, z_meth, z_fld, z_pr, z_me, z_isi, z_idx, z_sli, z_abs0, z_tup, z_lst, z_dic, z_dcomp, z_fstr, z_rvl, z_efld, z_eisi, z_ei1, z_ei2, z_comp, z_Tcmp, z_Tchain, z_TisN, z_TnotN, z_Tand, z_Tor, z_Tnot, z_Ttv, z_nil, z_cons, z_Fnil, z_Fcons, z_Tsn, z_Ts1, z_rng1, int2Q_1, z_rng2, z_rev, z_enm, z_zip, z_sq, z_Bnil, z_Bcons, z_asg, z_asgt, z_asg2, z_setf, z_seti, augQ_1, augQ_2, z_augn, z_augf, z_exp, z_ret, z_retN, z_if, z_for, z_whl, z_brk, z_cnt, z_pas, z_rais0, z_rais1, z_try, z_Hnil, z_Hcons, v_v0, v_vs, v_add, v_sub, v_mul, v_fdiv, v_tmul, v_smul, v_mod, v_pow, v_sadd, v_tadd, v_ladd, v_lmul, v_int, v_intb, v_abs, v_max2, v_min2, v_stri, v_strs, v_lens, v_lenm, v_len0, v_len1, v_len2, v_len3, v_len4, v_len5, v_len6, v_lenr, v_tupt, v_tupr, v_lstt, v_lstr, v_any, v_all, v_ixt, v_ixr, v_kon, v_seti, strQ_1, strQ_2, strQ_3, v_pts, v_ptn, v_sls, v_slt, v_slr, v_fld, v_setf, v_okl, v_oks, v_app, v_pop, v_dk1, v_dk2, v_get2, v_get1, v_insl, v_revl, v_upr, v_sti, v_sts, v_stc, v_rvl, v_lt, v_le, v_gt, v_ge, v_isb, v_nsb, v_eq, v_deq, v_ne, v_in, v_ni, v_eqii, v_eqss, v_eqbb, v_eqsi, v_eqis, v_eqni, v_eqin, v_eqns, v_eqsn, v_trn, v_trb, v_tri, v_trt, v_trr, v_trs, v_fms, v_fmi, v_inp, inrQ_1, inrQ_2, inrQ_3, v_inl, v_inK, v_ins, t_n, t_b, t_i, t_s, t_t, t_r, tyO_1, tyO_2, tyO_3, tyO_4, y_n, y_b, y_i, y_s, y_t, y_l, y_d, y_o, y_o1, y_o2, y_o3, y_o4, y_o5, y_o6, w_t, w_s, w_r, w_rev, w_e, w_zs, w_zt, List.map_cons, List.map_nil, List.replicate_succ, List.replicate_zero, List.cons_append, List.nil_append, List.append_nil, List.set_cons_zero, List.set_cons_succ, List.any_cons, List.any_nil, List.lookup_cons_self, meT, reduceCtorEq, decide_true, decide_false, Bool.or_false, Bool.false_or, Bool.or_true, Bool.true_or, Bool.not_true, Bool.not_false, Bool.and_true, Bool.true_and, Bool.and_false, Bool.false_and, true_and, and_true, wipeE, Option.isSome_some, Option.isSome_none, List.getElem?_concat_length, Nat.reduceBEq, Int.reduceEq, Int.reduceLT, Int.reduceLE, Int.reduceNeg, glo_0, glo_1, glo_2, glo_3, exf_0, exf_1, exf_2, exf_3, c_PastError, c_NoExpression, c_NoLine, c_NoText, d_line, $ls,*])
local macro_rules
  | `(tactic| simp!) => `(tactic| simp (implicitDefEqProofs := false) (dsimp := false) (failIfUnchanged := false) only [lz1, z_ifT, z_ifF, k_c0, k_c1, k_c2, k_c3, k_c4, k_c5, k_c6, k_few0, k_fewS, k_lkm, k_pf0, k_pfh, k_pfm, k_cls, k_clsO, k_oth1, k_oth2, k_oth3, k_oth4, k_oth5, k_oth6, k_oth7, ks_nx, ks_rt, ks_bk, ks_ct, ks_xc, kl_nx, kl_rt, kl_bk, kl_ct, kl_xc, kc_nx, kc_rt, kc_xc, kt_nx, kt_rt, kt_bk, kt_ct, kt_xc, kh_nx, kh_rt, un_n, un_s, isNon_1, isNon_2, isNon_3, isNon_4, isNon_5, isNon_6, isNon_7, boolQ_1, intQ_1, optQ_1, lstQ_1, sqQ_1, sqQ_2, cntQ_1, cntQ_2, cntQ_3, dicQ_1, insQ_1, getIx_0, getIx_1, getIx_2, getIx_3, getIx_4, getIx_5, ixrQ_1, ixrQ_2, ixrQ_3, ixrQ_4, setIx_0, setIx_1, setIx_2, bindQ_nm, bindL_0, bindL_1, bindQ_tp, z_var, z_con, z_glo, z_bin, z_neg, z_cmp, z_chain, z_isN, z_notN, z_and, z_or, z_not, z_ife, z_call, z_make, methQ_1, z_eqo, z_meth, z_fld, z_pr, z_me, z_isi, z_idx, z_sli, z_abs0, z_tup, z_lst, z_dic, z_dcomp, z_fstr, z_rvl, z_efld, z_eisi, z_ei1, z_ei2, z_comp, z_Tcmp, z_Tchain, z_TisN, z_TnotN, z_Tand, z_Tor, z_Tnot, z_Ttv, z_nil, z_cons, z_Fnil, z_Fcons, z_Tsn, z_Ts1, z_rng1, int2Q_1, z_rng2, z_rev, z_enm, z_zip, z_sq, z_Bnil, z_Bcons, z_asg, z_asgt, z_asg2, z_setf, z_seti, augQ_1, augQ_2, z_augn, z_augf, z_exp, z_ret, z_retN, z_if, z_for, z_whl, z_brk, z_cnt, z_pas, z_rais0, z_rais1, z_try, z_Hnil, z_Hcons, v_v0, v_vs, v_add, v_sub, v_mul, v_fdiv, v_tmul, v_smul, v_mod, v_pow, v_sadd, v_tadd, v_ladd, v_lmul, v_int, v_intb, v_abs, v_max2, v_min2, v_stri, v_strs, v_lens, v_lenm, v_len0, v_len1, v_len2, v_len3, v_len4, v_len5, v_len6, v_lenr, v_tupt, v_tupr, v_lstt, v_lstr, v_any, v_all, v_ixt, v_ixr, v_kon, v_seti, strQ_1, strQ_2, strQ_3, v_pts, v_ptn, v_sls, v_slt, v_slr, v_fld, v_setf, v_okl, v_oks, v_app, v_pop, v_dk1, v_dk2, v_get2, v_get1, v_insl, v_revl, v_upr, v_sti, v_sts, v_stc, v_rvl, v_lt, v_le, v_gt, v_ge, v_isb, v_nsb, v_eq, v_deq, v_ne, v_in, v_ni, v_eqii, v_eqss, v_eqbb, v_eqsi, v_eqis, v_eqni, v_eqin, v_eqns, v_eqsn, v_trn, v_trb, v_tri, v_trt, v_trr, v_trs, v_fms, v_fmi, v_inp, inrQ_1, inrQ_2, inrQ_3, v_inl, v_inK, v_ins, t_n, t_b, t_i, t_s, t_t, t_r, tyO_1, tyO_2, tyO_3, tyO_4, y_n, y_b, y_i, y_s, y_t, y_l, y_d, y_o, y_o1, y_o2, y_o3, y_o4, y_o5, y_o6, w_t, w_s, w_r, w_rev, w_e, w_zs, w_zt, List.map_cons, List.map_nil, List.replicate_succ, List.replicate_zero, List.cons_append, List.nil_append, List.append_nil, List.set_cons_zero, List.set_cons_succ, List.any_cons, List.any_nil, List.lookup_cons_self, meT, reduceCtorEq, decide_true, decide_false, Bool.or_false, Bool.false_or, Bool.or_true, Bool.true_or, Bool.not_true, Bool.not_false, Bool.and_true, Bool.true_and, Bool.and_false, Bool.false_and, true_and, and_true, wipeE, Option.isSome_some, Option.isSome_none, List.getElem?_concat_length, Nat.reduceBEq, Int.reduceEq, Int.reduceLT, Int.reduceLE, Int.reduceNeg, glo_0, glo_1, glo_2, glo_3, exf_0, exf_1, exf_2, exf_3, c_PastError, c_NoExpression, c_NoLine, c_NoText, d_line])
abbrev wTold : List Nat := [116, 111, 108, 100]
abbrev wRef : List Nat := [114, 101, 102, 117, 115, 101, 100]
theorem Ex_cl : ∀ {m : Nat} {e : Ex}, e.ok m → ∀ n, Cl n e.d
  | m, .num i, _, n => trivial
  | m, .reg c, h, n => by
    have h : c ∈ regs := by cases m <;> exact h
    refine ⟨le_line (by simp), fun x hx => ?_⟩
    rw [List.mem_singleton] at hx
    subst hx
    simp [regs] at h
    omega
  | 0, .op _ _ _, h, _ => by cases h
  | m + 1, .op s a b, h, n => by
    obtain ⟨h1, h2, h3⟩ := h
    refine ⟨⟨le_line (by simp), fun x hx => ?_⟩, Ex_cl h2 n, Ex_cl h3 n, trivial⟩
    rw [List.mem_singleton] at hx
    subst hx
    simp [signs] at h1
    omega
section
variable {k : Nat} {d : D} {st : Store} {Q : QE} {X : QX}
theorem laskedW (c : Cl st.length d) (h1 : exprB 6 d = false → Q (.tup [.str wRef, .bl true]) st) (h2 : ∀ e : Ex, e.ok 6 → d = e.d → Q (.tup [.str wTold, .str e.tx]) st) : Call T (k + 11) n__law_asked [.bl false, d] st Q X := by
  refine call_z f__law_asked.fn rfl rfl ?_
  show wpB T (Call T (k + 10)) none b__law_asked [some (.bl false), some d, none, none] st _
  unfold b__law_asked
  have s1 : T.sub c_NoExpression c_NoExpression = true := by rfl
  have s2 : T.sub c_NoExpression c_NoText = false := by rfl
  have s3 : T.sub c_NoExpression c_NoLine = false := by rfl
  simp!
  refine exprtext c (fun h => ?_) fun e he ee => ?_
  · simp! [s1, s2, s3]
    exact h1 h
  · simp!
    exact h2 e he ee
theorem laskedR (c : Cl st.length d) (l : ∀ x, d = .str x → x.length ≤ 100000) (h1 : (∀ x e, d = .str x → prs 6 x ≠ some (e, [])) → Q (.tup [.str wRef, .bl true]) st) (h2 : ∀ x e, d = .str x → prs 6 x = some (e, []) → Q (.tup [.str wTold, e.d]) st) : Call T (k + 11) n__law_asked [.bl true, d] st Q X := by
  refine call_z f__law_asked.fn rfl rfl ?_
  show wpB T (Call T (k + 10)) none b__law_asked [some (.bl true), some d, none, none] st _
  unfold b__law_asked
  have s1 : T.sub c_NoExpression c_NoExpression = true := by rfl
  have s2 : T.sub c_NoExpression c_NoText = false := by rfl
  have s3 : T.sub c_NoExpression c_NoLine = false := by rfl
  simp!
  refine readexpr c l (fun h => ?_) fun x e h ee => ?_
  · simp! [s1, s2, s3]
    exact h1 h
  · simp!
    exact h2 x e h ee
theorem lwrites (c : Cl st.length d) (hq : ∀ s, Keep st s → Q (.bl true) s) : Call T (k + 12) n__law_writes [d] st Q X := by
  refine call_z f__law_writes.fn rfl rfl ?_
  show wpB T (Call T (k + 11)) none b__law_writes [some d, none] st _
  unfold b__law_writes
  simp!
  cases z : exprB 6 d with
  | false =>
    refine laskedW c (fun _ => ?_) fun e he ee => ?_
    · simp!
      refine lgood 6 d (k + 4) _ _ _ _ rfl c fun s ks => ?_
      rw [z]
      simp!
      exact hq s ks
    · rw [ee, Ex.B he] at z
      cases z
  | true =>
    refine laskedW c (fun h => ?_) fun e he ee => ?_
    · rw [z] at h
      cases h
    · subst ee
      simp!
      refine lgood 6 _ (k + 4) _ _ _ _ rfl c fun s ks => ?_
      rw [z]
      simp!
      refine ltext_ 6 e (by decide) he (k + 4) _ _ _ ?_
      simp!
      exact hq s ks
theorem lreads (c : Cl st.length d) (l : ∀ x, d = .str x → x.length ≤ 100000) (hq : ∀ s, Keep st s → Q (.bl true) s) : Call T (k + 13) n__law_reads [d] st Q X := by
  refine call_z f__law_reads.fn rfl rfl ?_
  show wpB T (Call T (k + 12)) none b__law_reads [some d, none, none] st _
  unfold b__law_reads
  have i := fun F => isiS c F
  have other : (∀ x, d ≠ .str x) → Q (.bl true) st := fun _ => hq _ (.refl _)
  cases d with
  | str x =>
    simp!
    refine lread (k := k + 11) c.2 (l x rfl) (fun no s ks => ?_) fun e ee s ks => ?_
    · simp!
      refine laskedR (k := k + 1) (c.le ks.len) l (fun _ => ?_) fun x' e' h he => ?_
      · simp!
        exact hq s ks
      · cases h
        rw [← readL_iff, no] at he
        cases he
    · have pe := readL_iff.mp ee
      have px := prs_is pe
      have tx : e.tx = x := by rw [px.1, List.append_nil]
      simp!
      refine laskedR (k := k + 1) (c.le ks.len) l (fun no => absurd pe (no x e rfl)) fun x' e' h he => ?_
      cases h
      rw [pe] at he
      cases he
      simp!
      refine lsame_ 6 e px.2 (k + 5) _ _ _ ?_
      simp!
      refine ltext_ 6 e (by decide) px.2 (k + 5) _ _ _ ?_
      rw [tx]
      simp!
      refine lwrites (Ex_cl px.2 _) fun s2 k2 => ?_
      simp!
      exact hq _ (ks.trans k2)
  | kon _ => exact c.elim
  | _ =>
    simp! [i]
    refine laskedR (k := k + 1) c l (fun _ => ?_) fun x' e' h he => by cases h
    simp!
    exact hq _ (.refl _)
end
end Y.K_k14
set_option linter.all false
set_option maxHeartbeats 1600000
set_option maxRecDepth 100000
namespace Y.K_k14
open Y PySem
local macro_rules
  | `(tactic| simp! [$ls,*]) => `(tactic| simp (implicitDefEqProofs := false) (dsimp := false) (failIfUnchanged := false) only [lz1, z_ifT, z_ifF, k_c0, k_c1, k_c2, k_c3, k_c4, k_c5, k_c6, k_few0, k_fewS, k_lkm, k_pf0, k_pfh, k_pfm, k_cls, k_clsO, k_oth1, k_oth2, k_oth3, k_oth4, k_oth5, k_oth6, k_oth7, ks_nx, ks_rt, ks_bk, ks_ct, ks_xc, kl_nx, kl_rt, kl_bk, kl_ct, kl_xc, kc_nx, kc_rt, kc_xc, kt_nx, kt_rt, kt_bk, kt_ct, kt_xc, kh_nx, kh_rt, un_n, un_s, isNon_1, isNon_2, isNon_3, isNon_4, isNon_5, isNon_6, isNon_7, boolQ_1, intQ_1, optQ_1, lstQ_1, sqQ_1, sqQ_2, cntQ_1, cntQ_2, cntQ_3, dicQ_1, insQ_1, getIx_0, getIx_1, getIx_2, getIx_3, getIx_4, getIx_5, ixrQ_1, ixrQ_2, ixrQ_3, ixrQ_4, setIx_0, setIx_1, setIx_2, bindQ_nm, bindL_0, bindL_1, bindQ_tp, z_var, z_con, z_glo, z_bin, z_neg, z_cmp, z_chain, z_isN, z_notN, z_and, z_or, z_not, z_ife, z_call, z_make, methQ_1, z_eqo, z_meth, z_fld, z_pr, z_me, z_isi, z_idx, z_sli, z_abs0, z_tup, z_lst, z_dic, z_dcomp, z_fstr, z_rvl, z_efld, z_eisi, z_ei1, z_ei2, z_comp, z_Tcmp, z_Tchain, z_TisN, z_TnotN, z_Tand, z_Tor, z_Tnot, z_Ttv, z_nil, z_cons, z_Fnil, z_Fcons, z_Tsn, z_Ts1, z_rng1, int2Q_1, z_rng2, z_rev, z_enm, z_zip, z_sq, z_Bnil, z_Bcons, z_asg, z_asgt, z_asg2, z_setf, z_seti, augQ_1, augQ_2, z_augn, z_augf, z_exp, z_ret, z_retN, z_if, z_for, z_whl, z_brk, z_cnt, z_pas, z_rais0, z_rais1, z_try, z_Hnil, z_Hcons, v_v0, v_vs, v_add, v_sub, v_mul, v_fdiv, v_tmul, v_smul, v_mod, v_pow, v_sadd, v_tadd, v_ladd, v_lmul, v_int, v_intb, v_abs, v_max2, v_min2, v_stri, v_strs, v_lens, v_lenm, v_len0, v_len1, v_len2, v_len3, v_len4, v_len5, v_len6, v_lenr, v_tupt, v_tupr, v_lstt, v_lstr, v_any, v_all, v_ixt, v_ixr, v_kon, v_seti, strQ_1, strQ_2, strQ_3, v_pts, v_ptn, v_sls, v_slt, v_slr, v_fld, v_setf, v_okl, v_oks, v_app, v_pop, v_dk1, v_dk2, v_get2, v_get1, v_insl, v_revl, v_upr, v_sti, v_sts, v_stc, v_rvl, v_lt, v_le, v_gt, v_ge, v_isb, v_nsb, v_eq, v_deq, v_ne, v_in, v_ni, v_eqii, v_eqss, v_eqbb, v_eqsi, v_eqis, v_eqni, v_eqin, v_eqns, v_eqsn, v_trn, v_trb, v_tri, v_trt, v_trr, v_trs, v_fms, v_fmi, v_inp, inrQ_1, inrQ_2, inrQ_3, v_inl, v_inK, v_ins, t_n, t_b, t_i, t_s, t_t, t_r, tyO_1, tyO_2, tyO_3, tyO_4, y_n, y_b, y_i, y_s, y_t, y_l, y_d, y_o, y_o1, y_o2, y_o3, y_o4, y_o5, y_o6, w_t, w_s, w_r, w_rev, w_e, w_zs, w_zt, List.map_cons, List.map_nil, List.replicate_succ, List.replicate_zero, List.cons_append, List.nil_append, List.append_nil, List.set_cons_zero, List.set_cons_succ, List.any_cons, List.any_nil, List.lookup_cons_self, meT, reduceCtorEq, decide_true, decide_false, Bool.or_false, Bool.false_or, Bool.or_true, Bool.true_or, Bool.not_true, Bool.not_false, Bool.and_true, Bool.true_and, Bool.and_false, Bool.false_and, true_and, and_true, wipeE, Option.isSome_some, Option.isSome_none, List.getElem?_concat_length, Nat.reduceBEq, Int.reduceEq, Int.reduceLT, Int.reduceLE, Int.reduceNeg, glo_0, glo_1, glo_2, glo_3, exf_0, exf_1, exf_2, exf_3, c_PastError, c_NoExpression, c_NoLine, c_NoText, d_line, $ls,*])
local macro_rules
  | `(tactic| simp!) => `(tactic| simp (implicitDefEqProofs := false) (dsimp := false) (failIfUnchanged := false) only [lz1, z_ifT, z_ifF, k_c0, k_c1, k_c2, k_c3, k_c4, k_c5, k_c6, k_few0, k_fewS, k_lkm, k_pf0, k_pfh, k_pfm, k_cls, k_clsO, k_oth1, k_oth2, k_oth3, k_oth4, k_oth5, k_oth6, k_oth7, ks_nx, ks_rt, ks_bk, ks_ct, ks_xc, kl_nx, kl_rt, kl_bk, kl_ct, kl_xc, kc_nx, kc_rt, kc_xc, kt_nx, kt_rt, kt_bk, kt_ct, kt_xc, kh_nx, kh_rt, un_n, un_s, isNon_1, isNon_2, isNon_3, isNon_4, isNon_5, isNon_6, isNon_7, boolQ_1, intQ_1, optQ_1, lstQ_1, sqQ_1, sqQ_2, cntQ_1, cntQ_2, cntQ_3, dicQ_1, insQ_1, getIx_0, getIx_1, getIx_2, getIx_3, getIx_4, getIx_5, ixrQ_1, ixrQ_2, ixrQ_3, ixrQ_4, setIx_0, setIx_1, setIx_2, bindQ_nm, bindL_0, bindL_1, bindQ_tp, z_var, z_con, z_glo, z_bin, z_neg, z_cmp, z_chain, z_isN, z_notN, z_and, z_or, z_not, z_ife, z_call, z_make, methQ_1, z_eqo, z_meth, z_fld, z_pr, z_me, z_isi, z_idx, z_sli, z_abs0, z_tup, z_lst, z_dic, z_dcomp, z_fstr, z_rvl, z_efld, z_eisi, z_ei1, z_ei2, z_comp, z_Tcmp, z_Tchain, z_TisN, z_TnotN, z_Tand, z_Tor, z_Tnot, z_Ttv, z_nil, z_cons, z_Fnil, z_Fcons, z_Tsn, z_Ts1, z_rng1, int2Q_1, z_rng2, z_rev, z_enm, z_zip, z_sq, z_Bnil, z_Bcons, z_asg, z_asgt, z_asg2, z_setf, z_seti, augQ_1, augQ_2, z_augn, z_augf, z_exp, z_ret, z_retN, z_if, z_for, z_whl, z_brk, z_cnt, z_pas, z_rais0, z_rais1, z_try, z_Hnil, z_Hcons, v_v0, v_vs, v_add, v_sub, v_mul, v_fdiv, v_tmul, v_smul, v_mod, v_pow, v_sadd, v_tadd, v_ladd, v_lmul, v_int, v_intb, v_abs, v_max2, v_min2, v_stri, v_strs, v_lens, v_lenm, v_len0, v_len1, v_len2, v_len3, v_len4, v_len5, v_len6, v_lenr, v_tupt, v_tupr, v_lstt, v_lstr, v_any, v_all, v_ixt, v_ixr, v_kon, v_seti, strQ_1, strQ_2, strQ_3, v_pts, v_ptn, v_sls, v_slt, v_slr, v_fld, v_setf, v_okl, v_oks, v_app, v_pop, v_dk1, v_dk2, v_get2, v_get1, v_insl, v_revl, v_upr, v_sti, v_sts, v_stc, v_rvl, v_lt, v_le, v_gt, v_ge, v_isb, v_nsb, v_eq, v_deq, v_ne, v_in, v_ni, v_eqii, v_eqss, v_eqbb, v_eqsi, v_eqis, v_eqni, v_eqin, v_eqns, v_eqsn, v_trn, v_trb, v_tri, v_trt, v_trr, v_trs, v_fms, v_fmi, v_inp, inrQ_1, inrQ_2, inrQ_3, v_inl, v_inK, v_ins, t_n, t_b, t_i, t_s, t_t, t_r, tyO_1, tyO_2, tyO_3, tyO_4, y_n, y_b, y_i, y_s, y_t, y_l, y_d, y_o, y_o1, y_o2, y_o3, y_o4, y_o5, y_o6, w_t, w_s, w_r, w_rev, w_e, w_zs, w_zt, List.map_cons, List.map_nil, List.replicate_succ, List.replicate_zero, List.cons_append, List.nil_append, List.append_nil, List.set_cons_zero, List.set_cons_succ, List.any_cons, List.any_nil, List.lookup_cons_self, meT, reduceCtorEq, decide_true, decide_false, Bool.or_false, Bool.false_or, Bool.or_true, Bool.true_or, Bool.not_true, Bool.not_false, Bool.and_true, Bool.true_and, Bool.and_false, Bool.false_and, true_and, and_true, wipeE, Option.isSome_some, Option.isSome_none, List.getElem?_concat_length, Nat.reduceBEq, Int.reduceEq, Int.reduceLT, Int.reduceLE, Int.reduceNeg, glo_0, glo_1, glo_2, glo_3, exf_0, exf_1, exf_2, exf_3, c_PastError, c_NoExpression, c_NoLine, c_NoText, d_line])
theorem getIx_all {xs : List D} {y : Int} {F : D → Prop} (y0 : 0 ≤ y) (y1 : y < xs.length) (h : ∀ d ∈ xs, F d) : getIx xs y F := by
  have l : y.toNat < xs.length := by omega
  rw [getIx_m y0 (List.getElem?_eq_getElem l)]
  exact h _ (List.getElem_mem _)
theorem cut_mem {α : Type} {xs : List α} {lo hi : Option Int} {x : α} (m : x ∈ cutL xs lo hi) : x ∈ xs := List.mem_of_mem_drop (List.mem_of_mem_take m)
theorem cut_len {α : Type} {xs : List α} {lo hi : Option Int} : (cutL xs lo hi).length ≤ xs.length := by
  unfold cutL
  rw [List.length_take, List.length_drop]
  omega
structure Tb (b : Nat) (x : List Nat) : Prop where
  len : x.length ≤ b
  cs : ∀ c ∈ x, c < 128
def Ex.nodes : Ex → Nat
  | .num _ => 1
  | .reg _ => 1
  | .op _ a b => 1 + a.nodes + b.nodes
theorem nodes_pos : ∀ e : Ex, 1 ≤ e.nodes
  | .num _ => Nat.le_refl _
  | .reg _ => Nat.le_refl _
  | .op _ a b => by show 1 ≤ 1 + _ + _; omega
section
variable {k h : Nat} {st : Store} {Q : QE} {X : QX}
theorem leaf (P : Pool h st) (hq : ∀ (e : Ex) (s : Store), e.ok 0 → Ch h st s → Q e.d s) : Call T (k + 2) n__law_leaf [.ref h] st Q X := by
  refine call_z f__law_leaf.fn rfl rfl ?_
  show wpB T (Call T (k + 1)) none b__law_leaf [some (.ref h)] st _
  unfold b__law_leaf
  simp!
  refine draw (by decide) (by decide) P fun v s1 v0 v1 _ c1 => ?_
  refine ifd (fun _ => ?_) (fun _ => ?_)
  · simp!
    refine draw (by decide) (by decide) c1.pool fun w s2 w0 w1 _ c2 => ?_
    exact hq (.num w) _ ⟨w0, by omega⟩ (c1.trans c2)
  · simp!
    refine draw (by decide) (by decide) c1.pool fun w s2 w0 w1 _ c2 => ?_
    exact sign_of (T := T) w0 w1 (by decide) fun c m => hq (.reg c) _ m (c1.trans c2)
theorem sign (P : Pool h st) (hq : ∀ (x : List Nat) (s : Store), Tb 1 x → Ch h st s → Q (.str x) s) : Call T (k + 2) n__law_sign [.ref h] st Q X := by
  refine call_z f__law_sign.fn rfl rfl ?_
  show wpB T (Call T (k + 1)) none b__law_sign [some (.ref h), none] st _
  unfold b__law_sign
  simp!
  refine draw (by decide) (by decide) P fun v s1 v0 v1 _ c1 => ?_
  refine ifd (fun _ => ?_) (fun _ => ?_)
  · simp!
    refine draw (by decide) (by decide) c1.pool fun w s2 w0 w1 _ c2 => ?_
    exact sign_of (T := T) w0 w1 (by decide) fun c m => hq _ _ ⟨Nat.le_refl _, fun x z => by rw [List.mem_singleton] at z; subst z; revert m; revert x; decide⟩ (c1.trans c2)
  · simp!
    refine ⟨le_line (by decide), ?_⟩
    refine draw (by decide) (by decide) c1.pool fun w s2 w0 w1 _ c2 => ?_
    exact sign_of (T := T) w0 w1 (by decide) fun c m => hq _ _ ⟨Nat.le_refl _, fun x z => by rw [List.mem_singleton] at z; subst z; revert m; revert x; decide⟩ (c1.trans c2)
theorem change {kd a : Int} {x sg : List Nat} {B : Nat} (tx : Tb B x) (ts : Tb 1 sg) (lB : B ≤ 3000) (hq : ∀ y, Tb (2 * B + 1) y → Q (.str y) st) : Call T (k + 1) n__law_change [.str x, .int kd, .int a, .str sg] st Q X := by
  refine call_z f__law_change.fn rfl rfl ?_
  show wpB T (Call T k) none b__law_change [some (.str x), some (.int kd), some (.int a), some (.str sg)] st _
  unfold b__law_change
  have lx := tx.len
  have ls := ts.len
  by_cases e : x = []
  · subst e
    have t : decide ((([] : List Nat).length : Int) = 0) = true := by decide
    simp! [t]
    exact ⟨le_line (by simp), hq _ ⟨by omega, ts.cs⟩⟩
  · have lp : 1 ≤ x.length := List.length_pos_iff.mpr e
    have t : decide ((x.length : Int) = 0) = false := decide_eq_false (by omega)
    simp! [t]
    refine ⟨le_line (by omega), le_line (by omega), by omega, ?_⟩
    have app : ∀ {a b : List Nat}, (∀ c ∈ a, c < 128) → (∀ c ∈ b, c < 128) → ∀ c ∈ a ++ b, c < 128 := fun p q c m => (List.mem_append.mp m).elim (p c) (q c)
    have cx : ∀ lo hi, ∀ c ∈ cutL x lo hi, c < 128 := fun lo hi c m => tx.cs c (cut_mem m)
    have cl : ∀ lo hi, (cutL x lo hi).length ≤ B := fun lo hi => Nat.le_trans cut_len lx
    generalize a % (x.length : Int) = i
    have fin2 : ∀ {y z : List Nat}, y.length ≤ B → z.length ≤ B → (∀ c ∈ y, c < 128) → (∀ c ∈ z, c < 128) → Q (.str (y ++ z)) st := fun a b c d => hq _ ⟨by rw [List.length_append]; omega, app c d⟩
    have fin3 : ∀ {y z : List Nat}, y.length ≤ B → z.length ≤ B → (∀ c ∈ y, c < 128) → (∀ c ∈ z, c < 128) → Q (.str (y ++ sg ++ z)) st := fun a b c d => hq _ ⟨by rw [List.length_append, List.length_append]; omega, app (app c ts.cs) d⟩
    refine ifd (fun _ => ?_) (fun _ => ?_)
    · simp!
      have l1 := cl none (some i)
      have l2 := cl (some (i + 1)) none
      exact ⟨le_line (by omega), le_line (by omega), le_line (by omega), fin2 l1 l2 (cx _ _) (cx _ _)⟩
    simp!
    refine ifd (fun _ => ?_) (fun _ => ?_)
    · simp!
      have l1 := cl none (some i)
      have l2 := cl (some i) none
      exact ⟨le_line (by omega), le_line (by omega), le_line (by omega), le_line (by rw [List.length_append]; omega), fin3 l1 l2 (cx _ _) (cx _ _)⟩
    simp!
    refine ifd (fun _ => ?_) (fun _ => ?_)
    · simp!
      have l1 := cl none (some i)
      have l2 := cl (some (i + 1)) none
      exact ⟨le_line (by omega), le_line (by omega), le_line (by omega), le_line (by rw [List.length_append]; omega), fin3 l1 l2 (cx _ _) (cx _ _)⟩
    simp!
    refine ifd (fun _ => ?_) (fun _ => ?_)
    · simp!
      exact ⟨le_line (by omega), hq _ ⟨by rw [List.length_append]; omega, app tx.cs ts.cs⟩⟩
    simp!
    refine ifd (fun _ => ?_) (fun _ => ?_)
    · simp!
      have l1 := cl none (some (i + 1))
      have l2 := cl (some i) none
      exact ⟨le_line (by omega), le_line (by omega), le_line (by omega), fin2 l1 l2 (cx _ _) (cx _ _)⟩
    simp!
    have l1 := cl none (some i)
    exact ⟨le_line (by omega), hq _ ⟨by omega, cx _ _⟩⟩
end
theorem tree : ∀ (n w : Nat), w ≤ n → w ≤ 8 → ∀ (k h : Nat) (m : Int) (st : Store) (Q : QE) (X : QX), m = w → Pool h st → (∀ (e : Ex) (s : Store), e.ok w → Ch h st s → Q e.d s) → Call T (k + n + 3) n__law_tree [.ref h, .int m] st Q X := by
  intro n
  induction n with
  | zero =>
    intro w wn w8 k h m st Q X hm P hq
    have w0 : w = 0 := by omega
    subst w0 hm
    refine call_z f__law_tree.fn rfl rfl ?_
    show wpB T (Call T (k + 2)) none b__law_tree [some (.ref h), some (.int ((0 : Nat) : Int)), none, none, none, none] st _
    unfold b__law_tree
    have t : decide (((0 : Nat) : Int) = 0) = true := by decide
    simp! [t]
    exact leaf P hq
  | succ n ih =>
    intro w wn w8 k h m st Q X hm P hq
    subst hm
    refine call_z f__law_tree.fn rfl rfl ?_
    show wpB T (Call T (k + n + 3)) none b__law_tree [some (.ref h), some (.int (w : Int)), none, none, none, none] st _
    unfold b__law_tree
    by_cases w0 : w = 0
    · subst w0
      have t : decide (((0 : Nat) : Int) = 0) = true := by decide
      simp! [t]
      exact leaf (k := k + n + 1) P hq
    · have t : decide ((w : Int) = 0) = false := decide_eq_false (by omega)
      obtain ⟨w', rfl⟩ : ∃ w', w = w' + 1 := ⟨w - 1, by omega⟩
      simp! [t]
      refine draw (by decide) (by decide) P fun v s1 v0 v1 _ c1 => ?_
      refine sign_of (T := T) v0 v1 (by decide) fun sg ms => ?_
      simp!
      refine draw (by decide) (by decide) c1.pool fun sd s2 _ _ _ c2 => ?_
      simp!
      refine draw (by omega) (by omega) c2.pool fun v3 s3 v30 v31 _ c3 => ?_
      simp!
      obtain ⟨u, rfl⟩ : ∃ u : Nat, v3 = u := ⟨v3.toNat, by omega⟩
      refine ih u (by omega) (by omega) k h _ s3 _ _ rfl c3.pool fun e1 s4 o1 c4 => ?_
      simp!
      refine ih w' (by omega) (by omega) k h _ s4 _ _ (by omega) c4.pool fun e2 s5 o2 c5 => ?_
      have cc := (((c1.trans c2).trans c3).trans c4).trans c5
      have o1 := Ex.ok_mono (m := w') (by omega) o1
      simp!
      refine ifd (fun _ => ?_) (fun _ => ?_)
      · simp!
        exact hq (.op sg e2 e1) _ ⟨ms, o2, o1⟩ cc
      · simp!
        exact hq (.op sg e1 e2) _ ⟨ms, o1, o2⟩ cc
theorem nodes : ∀ (n : Nat) (e : Ex), e.ok n → ∀ (k : Nat) (st : Store) (Q : QE) (X : QX), Q (.int e.nodes) st → Call T (k + n + 1) n__law_nodes [e.d] st Q X := by
  intro n
  have leaf : ∀ (e : Ex), (∀ s a b, e ≠ .op s a b) → ∀ (k : Nat) (st : Store) (Q : QE) (X : QX), Q (.int e.nodes) st → Call T (k + 1) n__law_nodes [e.d] st Q X := by
    intro e ne k st Q X hq
    refine call_z f__law_nodes.fn rfl rfl ?_
    show wpB T (Call T k) none b__law_nodes [some e.d] st _
    unfold b__law_nodes
    cases e with
    | num i => simp! [Ex.d]; exact hq
    | reg c => simp! [Ex.d]; exact hq
    | op s a b => exact absurd rfl (ne s a b)
  induction n with
  | zero =>
    intro e he k st Q X hq
    cases e with
    | op s a b => cases he
    | num i => exact leaf _ (fun _ _ _ h => by cases h) k st Q X hq
    | reg c => exact leaf _ (fun _ _ _ h => by cases h) k st Q X hq
  | succ n ih =>
    intro e he k st Q X hq
    cases e with
    | num i => exact leaf _ (fun _ _ _ h => by cases h) (k + (n + 1)) st Q X hq
    | reg c => exact leaf _ (fun _ _ _ h => by cases h) (k + (n + 1)) st Q X hq
    | op s a b =>
      obtain ⟨h1, h2, h3⟩ := he
      refine call_z f__law_nodes.fn rfl rfl ?_
      show wpB T (Call T (k + (n + 1))) none b__law_nodes [some (.tup [.str [s], a.d, b.d])] st _
      unfold b__law_nodes
      simp!
      refine ih a h2 k st _ _ ?_
      simp!
      refine ih b h3 k st _ _ ?_
      simp!
      exact hq
structure Cell (l : Nat) (a b : Store) : Prop where
  len : b.length = a.length
  same : ∀ g, g ≠ l → b[g]? = a[g]?
  at_ : ∃ z : Int, b[l]? = some (.lst [.int z])
theorem put : ∀ (n : Nat) (e : Ex), e.ok n → ∀ (k l : Nat) (z : Int) (o : D) (st : Store) (Q : QE) (X : QX), st[l]? = some (.lst [.int z]) → Cl st.length o → (∀ d s, Cl s.length d → Cell l st s → Q d s) → Call T (k + n + 1) n__law_put [e.d, .ref l, o] st Q X := by
  intro n
  have up : ∀ {l : Nat} {z z' : Int} {st : Store}, st[l]? = some (.lst [.int z]) → Cell l st (st.set l (.lst [.int z'])) := fun h => ⟨by simp, fun g ne => List.getElem?_set_ne (Ne.symm ne), _, set_get h⟩
  have leaf : ∀ (e : Ex) (m : Nat), e.ok m → (∀ s a b, e ≠ .op s a b) → ∀ (k l : Nat) (z : Int) (o : D) (st : Store) (Q : QE) (X : QX), st[l]? = some (.lst [.int z]) → Cl st.length o → (∀ d s, Cl s.length d → Cell l st s → Q d s) → Call T (k + 1) n__law_put [e.d, .ref l, o] st Q X := by
    intro e m he ne k l z o st Q X eg co hq
    refine call_z f__law_put.fn rfl rfl ?_
    show wpB T (Call T k) none b__law_put [some e.d, some (.ref l), some o, none] st _
    unfold b__law_put
    have g1 : ∀ z' : Int, (st.set l (.lst [.int z']))[l]? = some (.lst [.int z']) := fun z' => set_get eg
    have ce := Ex_cl he
    simp! [eg, g1]
    refine ifd (fun _ => ?_) (fun _ => ?_)
    · simp!
      exact hq _ _ (by rw [List.length_set]; exact co) (up eg)
    · cases e with
      | num i =>
        simp! [Ex.d]
        exact hq _ _ (ce _) (up eg)
      | reg c =>
        simp! [Ex.d]
        exact hq _ _ (ce _) (up eg)
      | op s a b => exact absurd rfl (ne s a b)
  induction n with
  | zero =>
    intro e he k l z o st Q X eg co hq
    cases e with
    | op s a b => cases he
    | num i => exact leaf _ 0 he (fun _ _ _ h => by cases h) k l z o st Q X eg co hq
    | reg c => exact leaf _ 0 he (fun _ _ _ h => by cases h) k l z o st Q X eg co hq
  | succ n ih =>
    intro e he k l z o st Q X eg co hq
    cases e with
    | num i => exact leaf _ (n + 1) he (fun _ _ _ h => by cases h) (k + (n + 1)) l z o st Q X eg co hq
    | reg c => exact leaf _ (n + 1) he (fun _ _ _ h => by cases h) (k + (n + 1)) l z o st Q X eg co hq
    | op s a b =>
      have ce := Ex_cl he
      obtain ⟨h1, h2, h3⟩ := he
      refine call_z f__law_put.fn rfl rfl ?_
      show wpB T (Call T (k + (n + 1))) none b__law_put [some (.tup [.str [s], a.d, b.d]), some (.ref l), some o, none] st _
      unfold b__law_put
      have g1 : ∀ z' : Int, (st.set l (.lst [.int z']))[l]? = some (.lst [.int z']) := fun z' => set_get eg
      simp! [eg, g1]
      refine ifd (fun _ => ?_) (fun _ => ?_)
      · simp!
        exact hq _ _ (by rw [List.length_set]; exact co) (up eg)
      · simp!
        have c1 := up (z' := z - 1) eg
        refine ih a h2 k l _ o _ _ _ (g1 _) (by rw [c1.len]; exact co) fun d1 s1 k1 c2 => ?_
        obtain ⟨z2, e2⟩ := c2.at_
        simp!
        refine ih b h3 k l _ o _ _ _ e2 (by rw [c2.len, c1.len]; exact co) fun d2 s2 k2 c3 => ?_
        simp!
        refine hq _ _ ⟨(ce s2.length).1, by rw [c3.len]; exact k1, k2, trivial⟩ ⟨by rw [c3.len, c2.len, c1.len], fun g ne => by rw [c3.same g ne, c2.same g ne, c1.same g ne], c3.at_⟩
end Y.K_k14
set_option linter.all false
set_option maxHeartbeats 1600000
set_option maxRecDepth 100000
namespace Y.K_k14
open Y PySem
local macro_rules
  | `(tactic| simp! [$ls,*]) => `(tactic| simp (implicitDefEqProofs := false) (dsimp := false) (failIfUnchanged := false) only [lz1, z_ifT, z_ifF, k_c0, k_c1, k_c2, k_c3, k_c4, k_c5, k_c6, k_few0, k_fewS, k_lkm, k_pf0, k_pfh, k_pfm, k_cls, k_clsO, k_oth1, k_oth2, k_oth3, k_oth4, k_oth5, k_oth6, k_oth7, ks_nx, ks_rt, ks_bk, ks_ct, ks_xc, kl_nx, kl_rt, kl_bk, kl_ct, kl_xc, kc_nx, kc_rt, kc_xc, kt_nx, kt_rt, kt_bk, kt_ct, kt_xc, kh_nx, kh_rt, un_n, un_s, isNon_1, isNon_2, isNon_3, isNon_4, isNon_5, isNon_6, isNon_7, boolQ_1, intQ_1, optQ_1, lstQ_1, sqQ_1, sqQ_2, cntQ_1, cntQ_2, cntQ_3, dicQ_1, insQ_1, getIx_0, getIx_1, getIx_2, getIx_3, getIx_4, getIx_5, ixrQ_1, ixrQ_2, ixrQ_3, ixrQ_4, setIx_0, setIx_1, setIx_2, bindQ_nm, bindL_0, bindL_1, bindQ_tp, z_var, z_con, z_glo, z_bin, z_neg, z_cmp, z_chain, z_isN, z_notN, z_and, z_or, z_not, z_ife, z_call, z_make, methQ_1, z_eqo, z_meth, z_fld, z_pr, z_me, z_isi, z_idx, z_sli, z_abs0, z_tup, z_lst, z_dic, z_dcomp, z_fstr, z_rvl, z_efld, z_eisi, z_ei1, z_ei2, z_comp, z_Tcmp, z_Tchain, z_TisN, z_TnotN, z_Tand, z_Tor, z_Tnot, z_Ttv, z_nil, z_cons, z_Fnil, z_Fcons, z_Tsn, z_Ts1, z_rng1, int2Q_1, z_rng2, z_rev, z_enm, z_zip, z_sq, z_Bnil, z_Bcons, z_asg, z_asgt, z_asg2, z_setf, z_seti, augQ_1, augQ_2, z_augn, z_augf, z_exp, z_ret, z_retN, z_if, z_for, z_whl, z_brk, z_cnt, z_pas, z_rais0, z_rais1, z_try, z_Hnil, z_Hcons, v_v0, v_vs, v_add, v_sub, v_mul, v_fdiv, v_tmul, v_smul, v_mod, v_pow, v_sadd, v_tadd, v_ladd, v_lmul, v_int, v_intb, v_abs, v_max2, v_min2, v_stri, v_strs, v_lens, v_lenm, v_len0, v_len1, v_len2, v_len3, v_len4, v_len5, v_len6, v_lenr, v_tupt, v_tupr, v_lstt, v_lstr, v_any, v_all, v_ixt, v_ixr, v_kon, v_seti, strQ_1, strQ_2, strQ_3, v_pts, v_ptn, v_sls, v_slt, v_slr, v_fld, v_setf, v_okl, v_oks, v_app, v_pop, v_dk1, v_dk2, v_get2, v_get1, v_insl, v_revl, v_upr, v_sti, v_sts, v_stc, v_rvl, v_lt, v_le, v_gt, v_ge, v_isb, v_nsb, v_eq, v_deq, v_ne, v_in, v_ni, v_eqii, v_eqss, v_eqbb, v_eqsi, v_eqis, v_eqni, v_eqin, v_eqns, v_eqsn, v_trn, v_trb, v_tri, v_trt, v_trr, v_trs, v_fms, v_fmi, v_inp, inrQ_1, inrQ_2, inrQ_3, v_inl, v_inK, v_ins, t_n, t_b, t_i, t_s, t_t, t_r, tyO_1, tyO_2, tyO_3, tyO_4, y_n, y_b, y_i, y_s, y_t, y_l, y_d, y_o, y_o1, y_o2, y_o3, y_o4, y_o5, y_o6, w_t, w_s, w_r, w_rev, w_e, w_zs, w_zt, List.map_cons, List.map_nil, List.replicate_succ, List.replicate_zero, List.cons_append, List.nil_append, List.append_nil, List.set_cons_zero, List.set_cons_succ, List.any_cons, List.any_nil, List.lookup_cons_self, meT, reduceCtorEq, decide_true, decide_false, Bool.or_false, Bool.false_or, Bool.or_true, Bool.true_or, Bool.not_true, Bool.not_false, Bool.and_true, Bool.true_and, Bool.and_false, Bool.false_and, true_and, and_true, wipeE, Option.isSome_some, Option.isSome_none, List.getElem?_concat_length, Nat.reduceBEq, Int.reduceEq, Int.reduceLT, Int.reduceLE, Int.reduceNeg, glo_0, glo_1, glo_2, glo_3, exf_0, exf_1, exf_2, exf_3, c_PastError, c_NoExpression, c_NoLine, c_NoText, d_line, $ls,*])
local macro_rules
  | `(tactic| simp!) => `(tactic| simp (implicitDefEqProofs := false) (dsimp := false) (failIfUnchanged := false) only [lz1, z_ifT, z_ifF, k_c0, k_c1, k_c2, k_c3, k_c4, k_c5, k_c6, k_few0, k_fewS, k_lkm, k_pf0, k_pfh, k_pfm, k_cls, k_clsO, k_oth1, k_oth2, k_oth3, k_oth4, k_oth5, k_oth6, k_oth7, ks_nx, ks_rt, ks_bk, ks_ct, ks_xc, kl_nx, kl_rt, kl_bk, kl_ct, kl_xc, kc_nx, kc_rt, kc_xc, kt_nx, kt_rt, kt_bk, kt_ct, kt_xc, kh_nx, kh_rt, un_n, un_s, isNon_1, isNon_2, isNon_3, isNon_4, isNon_5, isNon_6, isNon_7, boolQ_1, intQ_1, optQ_1, lstQ_1, sqQ_1, sqQ_2, cntQ_1, cntQ_2, cntQ_3, dicQ_1, insQ_1, getIx_0, getIx_1, getIx_2, getIx_3, getIx_4, getIx_5, ixrQ_1, ixrQ_2, ixrQ_3, ixrQ_4, setIx_0, setIx_1, setIx_2, bindQ_nm, bindL_0, bindL_1, bindQ_tp, z_var, z_con, z_glo, z_bin, z_neg, z_cmp, z_chain, z_isN, z_notN, z_and, z_or, z_not, z_ife, z_call, z_make, methQ_1, z_eqo, z_meth, z_fld, z_pr, z_me, z_isi, z_idx, z_sli, z_abs0, z_tup, z_lst, z_dic, z_dcomp, z_fstr, z_rvl, z_efld, z_eisi, z_ei1, z_ei2, z_comp, z_Tcmp, z_Tchain, z_TisN, z_TnotN, z_Tand, z_Tor, z_Tnot, z_Ttv, z_nil, z_cons, z_Fnil, z_Fcons, z_Tsn, z_Ts1, z_rng1, int2Q_1, z_rng2, z_rev, z_enm, z_zip, z_sq, z_Bnil, z_Bcons, z_asg, z_asgt, z_asg2, z_setf, z_seti, augQ_1, augQ_2, z_augn, z_augf, z_exp, z_ret, z_retN, z_if, z_for, z_whl, z_brk, z_cnt, z_pas, z_rais0, z_rais1, z_try, z_Hnil, z_Hcons, v_v0, v_vs, v_add, v_sub, v_mul, v_fdiv, v_tmul, v_smul, v_mod, v_pow, v_sadd, v_tadd, v_ladd, v_lmul, v_int, v_intb, v_abs, v_max2, v_min2, v_stri, v_strs, v_lens, v_lenm, v_len0, v_len1, v_len2, v_len3, v_len4, v_len5, v_len6, v_lenr, v_tupt, v_tupr, v_lstt, v_lstr, v_any, v_all, v_ixt, v_ixr, v_kon, v_seti, strQ_1, strQ_2, strQ_3, v_pts, v_ptn, v_sls, v_slt, v_slr, v_fld, v_setf, v_okl, v_oks, v_app, v_pop, v_dk1, v_dk2, v_get2, v_get1, v_insl, v_revl, v_upr, v_sti, v_sts, v_stc, v_rvl, v_lt, v_le, v_gt, v_ge, v_isb, v_nsb, v_eq, v_deq, v_ne, v_in, v_ni, v_eqii, v_eqss, v_eqbb, v_eqsi, v_eqis, v_eqni, v_eqin, v_eqns, v_eqsn, v_trn, v_trb, v_tri, v_trt, v_trr, v_trs, v_fms, v_fmi, v_inp, inrQ_1, inrQ_2, inrQ_3, v_inl, v_inK, v_ins, t_n, t_b, t_i, t_s, t_t, t_r, tyO_1, tyO_2, tyO_3, tyO_4, y_n, y_b, y_i, y_s, y_t, y_l, y_d, y_o, y_o1, y_o2, y_o3, y_o4, y_o5, y_o6, w_t, w_s, w_r, w_rev, w_e, w_zs, w_zt, List.map_cons, List.map_nil, List.replicate_succ, List.replicate_zero, List.cons_append, List.nil_append, List.append_nil, List.set_cons_zero, List.set_cons_succ, List.any_cons, List.any_nil, List.lookup_cons_self, meT, reduceCtorEq, decide_true, decide_false, Bool.or_false, Bool.false_or, Bool.or_true, Bool.true_or, Bool.not_true, Bool.not_false, Bool.and_true, Bool.true_and, Bool.and_false, Bool.false_and, true_and, and_true, wipeE, Option.isSome_some, Option.isSome_none, List.getElem?_concat_length, Nat.reduceBEq, Int.reduceEq, Int.reduceLT, Int.reduceLE, Int.reduceNeg, glo_0, glo_1, glo_2, glo_3, exf_0, exf_1, exf_2, exf_3, c_PastError, c_NoExpression, c_NoLine, c_NoText, d_line])
def okN : D → Bool
  | .str x => decide (x.length ≤ 1000) && x.all fun c => decide (c < 128)
  | .tup ds => ds.all fun d => match d with
    | .str x => decide (x.length ≤ 1000) && x.all fun c => decide (c < 128)
    | .tup es => es.all fun e => match e with
      | .str x => decide (x.length ≤ 1000) && x.all fun c => decide (c < 128)
      | .tup _ => false
      | .ref _ => false
      | .kon _ => false
      | _ => true
    | .ref _ => false
    | .kon _ => false
    | _ => true
  | .ref _ => false
  | .kon _ => false
  | _ => true
theorem str_ok {x : List Nat} (h : (decide (x.length ≤ 1000) && x.all fun c => decide (c < 128)) = true) : x.length ≤ 1000 ∧ ∀ c ∈ x, c < 128 := by
  rw [Bool.and_eq_true, decide_eq_true_eq, List.all_eq_true] at h
  exact ⟨h.1, fun c m => of_decide_eq_true (h.2 c m)⟩
theorem okN_cl {d : D} (h : okN d = true) (n : Nat) : Cl n d := by
  have sc : ∀ x : List Nat, (decide (x.length ≤ 1000) && x.all fun c => decide (c < 128)) = true → Cl n (.str x) := fun x h => ⟨le_line (by have := (str_ok h).1; omega), (str_ok h).2⟩
  cases d with
  | str x => exact sc x h
  | tup ds =>
    refine Cls.of fun d m => ?_
    have h := List.all_eq_true.mp h d m
    cases d with
    | str x => exact sc x h
    | tup es =>
      refine Cls.of fun e m => ?_
      have h := List.all_eq_true.mp h e m
      cases e with
      | str x => exact sc x h
      | tup _ => cases h
      | ref _ => cases h
      | kon _ => cases h
      | _ => trivial
    | ref _ => cases h
    | kon _ => cases h
    | _ => trivial
  | ref _ => cases h
  | kon _ => cases h
  | _ => trivial
theorem fa_nil {P : D → Prop} : ∀ d ∈ ([] : List D), P d := fun d m => by cases m
theorem fa_cons {P : D → Prop} {a : D} {l : List D} (h1 : P a) (h2 : ∀ d ∈ l, P d) : ∀ d ∈ a :: l, P d := fun d m => (List.mem_cons.mp m).elim (fun e => by rw [e]; exact h1) (h2 d)
structure Od (n : Nat) (d : D) : Prop where
  c : Cl n d
  l : ∀ x, d = .str x → x.length ≤ 100000
theorem Od.le {a b : Nat} {d : D} (l : a ≤ b) (o : Od a d) : Od b d := ⟨o.c.le l, o.l⟩
theorem okN_od {d : D} {n : Nat} (h : okN d = true) : Od n d := ⟨okN_cl h n, fun x e => by subst e; exact Nat.le_trans (str_ok h).1 (by decide)⟩
theorem gb4 {s : Store} {x y z w : O} : (s ++ [x] ++ [y] ++ [z] ++ [w])[s.length]? = some x := get_app _ gb3
theorem dispE {s : Store} {F : QE} : dispQ (s ++ [.dic []]) s.length [] F = F (.ref s.length) (s ++ [.dic []]) := by
  unfold dispQ
  rw [gb1]
  have e : (s ++ [O.dic []]).set s.length (.dic (mergeD [])) = s ++ [.dic []] := by
    rw [show mergeD [] = [] from rfl]
    simp
  have : pairsOf [] = some [] := rfl
  rw [this]
  dsimp only
  rw [e]
  exact propext ⟨fun h => h.2.2, fun h => ⟨rfl, by decide, h⟩⟩
theorem lo_lt {a b : Nat} (h : a < b) : a < b := h
section
variable {k : Nat} {st : Store} {Q : QE} {X : QX}
theorem odd {v : Int} (v0 : 0 ≤ v) (v1 : v < 30) (hq : ∀ (d : D) (s : Store), Od s.length d → Keep st s → Q d s) : Call T (k + 1) n__law_odd [.int v] st Q X := by
  refine call_z f__law_odd.fn rfl rfl ?_
  show wpB T (Call T k) none b__law_odd [some (.int v), none] st _
  unfold b__law_odd
  simp! [gb1, gb2, gb3, gb4, dispE]
  refine ⟨by decide, ?_⟩
  simp! [gb1, gb2, gb3, gb4, dispE]
  refine ⟨le_line (by simp), ?_⟩
  simp! [gb1, gb2, gb3, gb4, dispE]
  refine ⟨le_line (by simp), ?_⟩
  simp! [gb1, gb2, gb3, gb4, dispE]
  refine ⟨by simp, ?_⟩
  refine getIx_all (Int.emod_nonneg _ (by simp)) (Int.emod_lt_of_pos _ (by simp)) fun d m => ?_
  refine hq d _ ?_ ?_
  · revert d m
    repeat' first
      | exact fa_nil
      | refine fa_cons ?_ ?_
      | exact okN_od rfl
    all_goals
      refine ⟨?_, fun x e => by cases e⟩
      first
        | (refine lo_lt ?_; simp only [List.length_append, List.length_cons, List.length_nil]; omega)
        | (refine ⟨lo_lt ?_, okN_cl (d := .str [97]) rfl _, trivial, trivial⟩; simp only [List.length_append, List.length_cons, List.length_nil]; omega)
  · repeat (first | exact Keep.refl _ | refine Keep.app ?_ _)
end
end Y.K_k14
set_option linter.all false
set_option maxHeartbeats 1600000
set_option maxRecDepth 100000
namespace Y.K_k14
open Y PySem
local macro_rules
  | `(tactic| simp! [$ls,*]) => `(tactic| simp (implicitDefEqProofs := false) (dsimp := false) (failIfUnchanged := false) only [lz1, z_ifT, z_ifF, k_c0, k_c1, k_c2, k_c3, k_c4, k_c5, k_c6, k_few0, k_fewS, k_lkm, k_pf0, k_pfh, k_pfm, k_cls, k_clsO, k_oth1, k_oth2, k_oth3, k_oth4, k_oth5, k_oth6, k_oth7, ks_nx, ks_rt, ks_bk, ks_ct, ks_xc, kl_nx, kl_rt, kl_bk, kl_ct, kl_xc, kc_nx, kc_rt, kc_xc, kt_nx, kt_rt, kt_bk, kt_ct, kt_xc, kh_nx, kh_rt, un_n, un_s, isNon_1, isNon_2, isNon_3, isNon_4, isNon_5, isNon_6, isNon_7, boolQ_1, intQ_1, optQ_1, lstQ_1, sqQ_1, sqQ_2, cntQ_1, cntQ_2, cntQ_3, dicQ_1, insQ_1, getIx_0, getIx_1, getIx_2, getIx_3, getIx_4, getIx_5, ixrQ_1, ixrQ_2, ixrQ_3, ixrQ_4, setIx_0, setIx_1, setIx_2, bindQ_nm, bindL_0, bindL_1, bindQ_tp, z_var, z_con, z_glo, z_bin, z_neg, z_cmp, z_chain, z_isN, z_notN, z_and, z_or, z_not, z_ife, z_call, z_make, methQ_1, z_eqo, z_meth, z_fld, z_pr, z_me, z_isi, z_idx, z_sli, z_abs0, z_tup, z_lst, z_dic, z_dcomp, z_fstr, z_rvl, z_efld, z_eisi, z_ei1, z_ei2, z_comp, z_Tcmp, z_Tchain, z_TisN, z_TnotN, z_Tand, z_Tor, z_Tnot, z_Ttv, z_nil, z_cons, z_Fnil, z_Fcons, z_Tsn, z_Ts1, z_rng1, int2Q_1, z_rng2, z_rev, z_enm, z_zip, z_sq, z_Bnil, z_Bcons, z_asg, z_asgt, z_asg2, z_setf, z_seti, augQ_1, augQ_2, z_augn, z_augf, z_exp, z_ret, z_retN, z_if, z_for, z_whl, z_brk, z_cnt, z_pas, z_rais0, z_rais1, z_try, z_Hnil, z_Hcons, v_v0, v_vs, v_add, v_sub, v_mul, v_fdiv, v_tmul, v_smul, v_mod, v_pow, v_sadd, v_tadd, v_ladd, v_lmul, v_int, v_intb, v_abs, v_max2, v_min2, v_stri, v_strs, v_lens, v_lenm, v_len0, v_len1, v_len2, v_len3, v_len4, v_len5, v_len6, v_lenr, v_tupt, v_tupr, v_lstt, v_lstr, v_any, v_all, v_ixt, v_ixr, v_kon, v_seti, strQ_1, strQ_2, strQ_3, v_pts, v_ptn, v_sls, v_slt, v_slr, v_fld, v_setf, v_okl, v_oks, v_app, v_pop, v_dk1, v_dk2, v_get2, v_get1, v_insl, v_revl, v_upr, v_sti, v_sts, v_stc, v_rvl, v_lt, v_le, v_gt, v_ge, v_isb, v_nsb, v_eq, v_deq, v_ne, v_in, v_ni, v_eqii, v_eqss, v_eqbb, v_eqsi, v_eqis, v_eqni, v_eqin, v_eqns, v_eqsn, v_trn, v_trb, v_tri, v_trt, v_trr, v_trs, v_fms, v_fmi, v_inp, inrQ_1, inrQ_2, inrQ_3, v_inl, v_inK, v_ins, t_n, t_b, t_i, t_s, t_t, t_r, tyO_1, tyO_2, tyO_3, tyO_4, y_n, y_b, y_i, y_s, y_t, y_l, y_d, y_o, y_o1, y_o2, y_o3, y_o4, y_o5, y_o6, w_t, w_s, w_r, w_rev, w_e, w_zs, w_zt, List.map_cons, List.map_nil, List.replicate_succ, List.replicate_zero, List.cons_append, List.nil_append, List.append_nil, List.set_cons_zero, List.set_cons_succ, List.any_cons, List.any_nil, List.lookup_cons_self, meT, reduceCtorEq, decide_true, decide_false, Bool.or_false, Bool.false_or, Bool.or_true, Bool.true_or, Bool.not_true, Bool.not_false, Bool.and_true, Bool.true_and, Bool.and_false, Bool.false_and, true_and, and_true, wipeE, Option.isSome_some, Option.isSome_none, List.getElem?_concat_length, Nat.reduceBEq, Int.reduceEq, Int.reduceLT, Int.reduceLE, Int.reduceNeg, glo_0, glo_1, glo_2, glo_3, exf_0, exf_1, exf_2, exf_3, c_PastError, c_NoExpression, c_NoLine, c_NoText, d_line, $ls,*])
local macro_rules
  | `(tactic| simp!) => `(tactic| simp (implicitDefEqProofs := false) (dsimp := false) (failIfUnchanged := false) only [lz1, z_ifT, z_ifF, k_c0, k_c1, k_c2, k_c3, k_c4, k_c5, k_c6, k_few0, k_fewS, k_lkm, k_pf0, k_pfh, k_pfm, k_cls, k_clsO, k_oth1, k_oth2, k_oth3, k_oth4, k_oth5, k_oth6, k_oth7, ks_nx, ks_rt, ks_bk, ks_ct, ks_xc, kl_nx, kl_rt, kl_bk, kl_ct, kl_xc, kc_nx, kc_rt, kc_xc, kt_nx, kt_rt, kt_bk, kt_ct, kt_xc, kh_nx, kh_rt, un_n, un_s, isNon_1, isNon_2, isNon_3, isNon_4, isNon_5, isNon_6, isNon_7, boolQ_1, intQ_1, optQ_1, lstQ_1, sqQ_1, sqQ_2, cntQ_1, cntQ_2, cntQ_3, dicQ_1, insQ_1, getIx_0, getIx_1, getIx_2, getIx_3, getIx_4, getIx_5, ixrQ_1, ixrQ_2, ixrQ_3, ixrQ_4, setIx_0, setIx_1, setIx_2, bindQ_nm, bindL_0, bindL_1, bindQ_tp, z_var, z_con, z_glo, z_bin, z_neg, z_cmp, z_chain, z_isN, z_notN, z_and, z_or, z_not, z_ife, z_call, z_make, methQ_1, z_eqo, z_meth, z_fld, z_pr, z_me, z_isi, z_idx, z_sli, z_abs0, z_tup, z_lst, z_dic, z_dcomp, z_fstr, z_rvl, z_efld, z_eisi, z_ei1, z_ei2, z_comp, z_Tcmp, z_Tchain, z_TisN, z_TnotN, z_Tand, z_Tor, z_Tnot, z_Ttv, z_nil, z_cons, z_Fnil, z_Fcons, z_Tsn, z_Ts1, z_rng1, int2Q_1, z_rng2, z_rev, z_enm, z_zip, z_sq, z_Bnil, z_Bcons, z_asg, z_asgt, z_asg2, z_setf, z_seti, augQ_1, augQ_2, z_augn, z_augf, z_exp, z_ret, z_retN, z_if, z_for, z_whl, z_brk, z_cnt, z_pas, z_rais0, z_rais1, z_try, z_Hnil, z_Hcons, v_v0, v_vs, v_add, v_sub, v_mul, v_fdiv, v_tmul, v_smul, v_mod, v_pow, v_sadd, v_tadd, v_ladd, v_lmul, v_int, v_intb, v_abs, v_max2, v_min2, v_stri, v_strs, v_lens, v_lenm, v_len0, v_len1, v_len2, v_len3, v_len4, v_len5, v_len6, v_lenr, v_tupt, v_tupr, v_lstt, v_lstr, v_any, v_all, v_ixt, v_ixr, v_kon, v_seti, strQ_1, strQ_2, strQ_3, v_pts, v_ptn, v_sls, v_slt, v_slr, v_fld, v_setf, v_okl, v_oks, v_app, v_pop, v_dk1, v_dk2, v_get2, v_get1, v_insl, v_revl, v_upr, v_sti, v_sts, v_stc, v_rvl, v_lt, v_le, v_gt, v_ge, v_isb, v_nsb, v_eq, v_deq, v_ne, v_in, v_ni, v_eqii, v_eqss, v_eqbb, v_eqsi, v_eqis, v_eqni, v_eqin, v_eqns, v_eqsn, v_trn, v_trb, v_tri, v_trt, v_trr, v_trs, v_fms, v_fmi, v_inp, inrQ_1, inrQ_2, inrQ_3, v_inl, v_inK, v_ins, t_n, t_b, t_i, t_s, t_t, t_r, tyO_1, tyO_2, tyO_3, tyO_4, y_n, y_b, y_i, y_s, y_t, y_l, y_d, y_o, y_o1, y_o2, y_o3, y_o4, y_o5, y_o6, w_t, w_s, w_r, w_rev, w_e, w_zs, w_zt, List.map_cons, List.map_nil, List.replicate_succ, List.replicate_zero, List.cons_append, List.nil_append, List.append_nil, List.set_cons_zero, List.set_cons_succ, List.any_cons, List.any_nil, List.lookup_cons_self, meT, reduceCtorEq, decide_true, decide_false, Bool.or_false, Bool.false_or, Bool.or_true, Bool.true_or, Bool.not_true, Bool.not_false, Bool.and_true, Bool.true_and, Bool.and_false, Bool.false_and, true_and, and_true, wipeE, Option.isSome_some, Option.isSome_none, List.getElem?_concat_length, Nat.reduceBEq, Int.reduceEq, Int.reduceLT, Int.reduceLE, Int.reduceNeg, glo_0, glo_1, glo_2, glo_3, exf_0, exf_1, exf_2, exf_3, c_PastError, c_NoExpression, c_NoLine, c_NoText, d_line])
theorem rep_128 {a : List Nat} (h : ∀ c ∈ a, c < 128) : ∀ n : Nat, ∀ c ∈ (List.replicate n a).flatten, c < 128 := fun n c m => by
  obtain ⟨l, ml, mc⟩ := List.mem_flatten.mp m
  rw [(List.mem_replicate.mp ml).2] at mc
  exact h c mc
theorem rep_len {a : List Nat} {n : Nat} : ((List.replicate n a).flatten).length = n * a.length := by
  induction n with
  | zero => simp
  | succ n ih => rw [List.replicate_succ, List.flatten_cons, List.length_append, ih, Nat.succ_mul]; omega
theorem Tb.od {b : Nat} {x : List Nat} (t : Tb b x) (l : b ≤ 100000) (n : Nat) : Od n (.str x) := ⟨⟨le_line (by have := t.len; omega), t.cs⟩, fun y e => by cases e; have := t.len; omega⟩
theorem tx_tb {e : Ex} (h : e.ok 7) : Tb 512 e.tx := ⟨by have := tx_len h; have : (2 : Nat) ^ (7 + 2) = 512 := (by decide); omega, ok_128 h⟩
theorem law {k : Nat} {ns : List Int} (hl : ns.length ≤ 63) : Call T (k + 62) n_law [.ref 0] (st0 ns) (fun d _ => d = .bl true) (fun _ _ => False) := by
  refine call_z f_law.fn rfl rfl ?_
  show wpB T (Call T (k + 61)) none b_law [some (.ref 0), none, none, none, none, none, none, none, none, none, none, none, none, none] (st0 ns) _
  unfold b_law
  simp!
  refine pool (st := st0 ns) rfl hl (by decide) fun o1 p1 => ?_
  have s0 : (st0 ns ++ [o1])[0]? = some (.fro (ns.map D.int)) := rfl
  generalize st0 ns ++ [o1] = st1 at p1 s0 ⊢
  rw [show (st0 ns).length = 1 from rfl] at p1 ⊢
  simp!
  refine draw (by decide) (by decide) p1 fun ch st2 ch0 ch1 _ c2 => ?_
  simp!
  refine draw (by decide) (by decide) c2.pool.app fun v st3 v0 v1 _ c3 => ?_
  have h1 := p1.lt
  have g3 := c3.get (get_snoc st2 _) (by have := c2.len; omega)
  have c13 := (c2.app).trans c3
  simp! [g3]
  refine getIx_all v0 v1 fun dd md => ?_
  obtain ⟨w, rfl, w7⟩ : ∃ w : Nat, dd = .int w ∧ w ≤ 7 := by
    simp only [List.mem_cons, List.not_mem_nil, or_false] at md
    rcases md with z | z | z | z | z | z | z | z | z
    · exact ⟨0, z, by decide⟩
    · exact ⟨1, z, by decide⟩
    · exact ⟨2, z, by decide⟩
    · exact ⟨3, z, by decide⟩
    · exact ⟨4, z, by decide⟩
    · exact ⟨5, z, by decide⟩
    · exact ⟨6, z, by decide⟩
    · exact ⟨6, z, by decide⟩
    · exact ⟨7, z, by decide⟩
  clear md g3
  have s3 := c13.get s0 (by decide)
  simp!
  refine draw (by decide) (by decide) c13.pool fun wr st4 wr0 wr1 _ c4 => ?_
  simp!
  refine draw (by decide) (by decide) c4.pool fun v st5 v0 v1 _ c5 => ?_
  simp!
  refine odd v0 v1 fun od st6 oo k6 => ?_
  have c36 := (c4.trans c5).keep k6
  simp!
  refine draw (by decide) (by decide) c36.pool fun a st7 a0 a1 l7 c7 => ?_
  simp!
  refine draw (by decide) (by decide) c7.pool fun b st8 b0 b1 l8 c8 => ?_
  simp!
  refine draw (by decide) (by decide) c8.pool fun k0 st9 k00 k01 l9 c9 => ?_
  simp!
  refine draw (by decide) (by decide) c9.pool fun k1 st10 k10 k11 l10 c10 => ?_
  have c310 := (((c36.trans c7).trans c8).trans c9).trans c10
  have s10 := c310.get s3 (by decide)
  have oo := oo.le (show st6.length ≤ st10.length by have := c7.len; have := c8.len; have := c9.len; have := c10.len; omega)
  have p10 := c310.pool
  clear c2 c3 c13 c4 c5 k6 c36 c7 c8 c9 c10 c310 s0 s3 p1
  simp!
  refine sign (k := k + 59) p10.app fun x1 st11 t1 c11 => ?_
  simp!
  refine sign (k := k + 59) c11.pool fun x2 st12 t2 c12 => ?_
  have cc := c11.trans c12
  have nk : st10.length ≠ 1 := Nat.ne_of_gt p10.lt
  have gk := cc.get (get_snoc st10 (O.lst [.int k0, .int k1])) nk
  have s12 := cc.get (get_app [O.lst [.int k0, .int k1]] s10) (by decide)
  have oo := oo.le (show st10.length ≤ st12.length by have := cc.len; simp at this; omega)
  generalize st10.length = kh at gk ⊢
  clear c11 c12 cc p10 s10 nk
  simp!
  have gs := get_snoc st12 (O.lst [.str x1, .str x2])
  have gk := get_app [O.lst [.str x1, .str x2]] gk
  have s13 := get_app [O.lst [.str x1, .str x2]] s12
  have oo := oo.le (show st12.length ≤ (st12 ++ [O.lst [.str x1, .str x2]]).length by simp)
  generalize st12 ++ [O.lst [.str x1, .str x2]] = st13 at gs gk s13 oo ⊢
  generalize st12.length = sh at gs ⊢
  clear s12
  simp!
  refine pool s13 hl (by decide) fun o14 p14 => ?_
  simp!
  refine tree 7 w w7 (by omega) (k + 51) _ _ _ _ _ rfl p14 fun e st14 oe c14 => ?_
  have ne : ∀ {g : Nat} {o : O}, st13[g]? = some o → g ≠ st13.length := fun h => Nat.ne_of_lt (lt_of_get h)
  have gs2 := c14.get (get_app [o14] gs) (ne gs)
  have gk2 := c14.get (get_app [o14] gk) (ne gk)
  have s14 := c14.get (get_app [o14] s13) (ne s13)
  have oo := oo.le (show st13.length ≤ st14.length by have := c14.len; simp at this; omega)
  have oe := Ex.ok_mono w7 oe
  clear c14 p14 ne gs gk s13
  simp!
  refine ltext_ 7 e (by decide) oe (k + 53) _ _ _ ?_
  have tt := tx_tb oe
  have th := Ex_cl oe
  simp!
  by_cases c4 : ch < 4
  · have f1 : decide (ch < 4) = true := decide_eq_true c4
    have f4 : decide (ch = 4) = false := decide_eq_false (by omega)
    have f5 : decide (ch = 5) = false := decide_eq_false (by omega)
    have f6 : decide (ch = 6) = false := decide_eq_false (by omega)
    have f7 : decide (ch = 7) = false := decide_eq_false (by omega)
    have f8 : decide (ch = 8) = false := decide_eq_false (by omega)
    have f9 : decide (ch = 9) = false := decide_eq_false (by omega)
    simp! [f1]
    refine nodes 7 e oe (k + 53) _ _ _ ?_
    have np := nodes_pos e
    simp!
    refine ⟨by omega, ?_⟩
    simp!
    refine put 7 e oe (k + 53) _ _ _ _ _ _ (get_snoc _ _) (oo.c.le (by simp)) fun d s cd cl => ?_
    have SN : s[0]? = some (.fro (ns.map D.int)) := by
      rw [cl.same 0 (by have := lt_of_get s14; omega)]
      exact get_app _ s14
    simp! [f4, f5, f6, f7, f8, f9]
    simp!
    refine lwrites (k := k + 49) cd fun s1 q1 => ?_
    simp!
    refine lreads (k := k + 48) (tt.od (by decide) s1.length).c (tt.od (by decide) s1.length).l fun s2 q2 => ?_
    have e0 := (q1.trans q2).get SN
    simp!
    refine pool e0 hl (by decide) fun o3 p3 => ?_
    simp!
    refine tree 7 w w7 (by omega) (k + 51) _ _ _ _ _ rfl p3 fun e2 s3 oe2 c3 => ?_
    have oe2 := Ex.ok_mono w7 oe2
    have tt2 := (tx_tb oe2).od (by decide) s3.length
    simp!
    refine ltext_ 7 e2 (by decide) oe2 (k + 53) _ _ _ ?_
    simp!
    refine lreads (k := k + 48) tt2.c tt2.l fun s4 q4 => ?_
    simp!
    refine lwrites (k := k + 49) (show Cl s4.length (.str [120]) from ⟨le_line (by simp), by decide⟩) fun s5 q5 => ?_
    simp!
    refine lreads (k := k + 48) (show Cl s5.length (.str [40, 97, 43, 48, 41]) from ⟨le_line (by simp), by decide⟩) (fun y e => by cases e; simp) fun s6 q6 => ?_
    rfl
  have f1 : decide (ch < 4) = false := decide_eq_false c4
  have SN := s14
  by_cases c5 : ch = 4
  · subst c5
    simp!
    refine ⟨by omega, by omega, ?_⟩
    refine for_s (fun r env s => ∃ (d : D) (q12 : Option D), Cl st14.length d ∧ s = st14 ∧ env = [some (.ref 0), some (.ref 1), some (.int 4), some (.int w), some (.int wr), some od, some (.int a), some (.int b), some (.ref kh), some (.ref sh), some d, some (.str e.tx), q12, none]) ⟨e.d, none, th _, rfl, rfl⟩ (fun d0 r env s N ⟨d, q12, b1, b2, b3⟩ hN => ?_) (fun env s ⟨d, q12, b1, b2, b3⟩ => ?_)
    · subst b2 b3
      simp!
      exact hN _ _ ⟨.tup [.str [43], d, .int 1], _, ⟨⟨le_line (by simp), by decide⟩, b1, trivial, trivial⟩, rfl, rfl⟩
    · subst b2 b3
      simp!
      refine lwrites (k := k + 49) b1 fun s1 q1 => ?_
      simp!
      refine lreads (k := k + 48) (tt.od (by decide) s1.length).c (tt.od (by decide) s1.length).l fun s2 q2 => ?_
      have e0 := (q1.trans q2).get SN
      simp!
      refine pool e0 hl (by decide) fun o3 p3 => ?_
      simp!
      refine tree 7 w w7 (by omega) (k + 51) _ _ _ _ _ rfl p3 fun e2 s3 oe2 c3 => ?_
      have oe2 := Ex.ok_mono w7 oe2
      have tt2 := (tx_tb oe2).od (by decide) s3.length
      simp!
      refine ltext_ 7 e2 (by decide) oe2 (k + 53) _ _ _ ?_
      simp!
      refine lreads (k := k + 48) tt2.c tt2.l fun s4 q4 => ?_
      simp!
      refine lwrites (k := k + 49) (show Cl s4.length (.str [120]) from ⟨le_line (by simp), by decide⟩) fun s5 q5 => ?_
      simp!
      refine lreads (k := k + 48) (show Cl s5.length (.str [40, 97, 43, 48, 41]) from ⟨le_line (by simp), by decide⟩) (fun y e => by cases e; simp) fun s6 q6 => ?_
      rfl
  by_cases c6 : ch = 5
  · subst c6
    simp! [gk2, gs2]
    refine change (k := k + 60) tt t1 (by decide) fun y ty => ?_
    simp!
    refine lwrites (k := k + 49) (th _) fun s1 q1 => ?_
    simp!
    refine lreads (k := k + 48) (ty.od (by decide) s1.length).c (ty.od (by decide) s1.length).l fun s2 q2 => ?_
    have e0 := (q1.trans q2).get SN
    simp!
    refine pool e0 hl (by decide) fun o3 p3 => ?_
    simp!
    refine tree 7 w w7 (by omega) (k + 51) _ _ _ _ _ rfl p3 fun e2 s3 oe2 c3 => ?_
    have oe2 := Ex.ok_mono w7 oe2
    have tt2 := (tx_tb oe2).od (by decide) s3.length
    simp!
    refine ltext_ 7 e2 (by decide) oe2 (k + 53) _ _ _ ?_
    simp!
    refine lreads (k := k + 48) tt2.c tt2.l fun s4 q4 => ?_
    simp!
    refine lwrites (k := k + 49) (show Cl s4.length (.str [120]) from ⟨le_line (by simp), by decide⟩) fun s5 q5 => ?_
    simp!
    refine lreads (k := k + 48) (show Cl s5.length (.str [40, 97, 43, 48, 41]) from ⟨le_line (by simp), by decide⟩) (fun y e => by cases e; simp) fun s6 q6 => ?_
    rfl
  by_cases c7 : ch = 6
  · subst c7
    simp! [gk2, gs2]
    refine change (k := k + 60) tt t1 (by decide) fun y ty => ?_
    simp! [gk2, gs2]
    refine change (k := k + 60) ty t2 (by decide) fun z tz => ?_
    simp!
    refine lwrites (k := k + 49) (th _) fun s1 q1 => ?_
    simp!
    refine lreads (k := k + 48) (tz.od (by decide) s1.length).c (tz.od (by decide) s1.length).l fun s2 q2 => ?_
    have e0 := (q1.trans q2).get SN
    simp!
    refine pool e0 hl (by decide) fun o3 p3 => ?_
    simp!
    refine tree 7 w w7 (by omega) (k + 51) _ _ _ _ _ rfl p3 fun e2 s3 oe2 c3 => ?_
    have oe2 := Ex.ok_mono w7 oe2
    have tt2 := (tx_tb oe2).od (by decide) s3.length
    simp!
    refine ltext_ 7 e2 (by decide) oe2 (k + 53) _ _ _ ?_
    simp!
    refine lreads (k := k + 48) tt2.c tt2.l fun s4 q4 => ?_
    simp!
    refine lwrites (k := k + 49) (show Cl s4.length (.str [120]) from ⟨le_line (by simp), by decide⟩) fun s5 q5 => ?_
    simp!
    refine lreads (k := k + 48) (show Cl s5.length (.str [40, 97, 43, 48, 41]) from ⟨le_line (by simp), by decide⟩) (fun y e => by cases e; simp) fun s6 q6 => ?_
    rfl
  by_cases c8 : ch = 7
  · subst c8
    simp!
    refine getIx_all (Int.emod_nonneg _ (by decide)) (Int.emod_lt_of_pos _ (by decide)) fun dm mm => ?_
    obtain ⟨m, rfl, m9⟩ : ∃ m : Nat, dm = .int m ∧ m ≤ 1008 := by
      simp only [List.mem_cons, List.not_mem_nil, or_false] at mm
      rcases mm with z | z | z
      · exact ⟨a.toNat, by rw [z, Int.toNat_of_nonneg a0], by omega⟩
      · exact ⟨(a % 9).toNat, by rw [z, Int.toNat_of_nonneg (Int.emod_nonneg _ (by decide))], by omega⟩
      · exact ⟨(a % 8).toNat, by rw [z, Int.toNat_of_nonneg (Int.emod_nonneg _ (by decide))], by omega⟩
    have SN := get_app [O.lst [.int a, .int (a % 9), .int (a % 8)]] SN
    simp!
    have hb : (0 : Int) ≤ (if decide (b % 5 = 4) = true then 1 else 0) ∧ (if decide (b % 5 = 4) = true then (1 : Int) else 0) ≤ 1 := by split <;> decide
    generalize (if decide (b % 5 = 4) = true then (1 : Int) else 0) = bb at hb ⊢
    have q1 := rep_len (a := [40]) (n := (m : Int).toNat)
    have q2 := rep_len (a := [43, 49, 41]) (n := ((m : Int) - bb).toNat)
    have r1 := rep_128 (a := [40]) (by decide) (m : Int).toNat
    have r2 := rep_128 (a := [43, 49, 41]) (by decide) ((m : Int) - bb).toNat
    have i1 : ([40] : List Nat).length = 1 := rfl
    have i3 : ([43, 49, 41] : List Nat).length = 3 := rfl
    have i97 : ([97] : List Nat).length = 1 := rfl
    rw [i1] at q1
    rw [i3] at q2
    refine ⟨⟨by omega, by omega, le_line (by rw [i1]; omega)⟩, le_line (by omega), ⟨by omega, by omega, le_line (by rw [i3]; omega)⟩, le_line (by rw [List.length_append]; omega), ?_⟩
    have tm : Tb 10000 ((List.replicate (m : Int).toNat [40]).flatten ++ [97] ++ (List.replicate ((m : Int) - bb).toNat [43, 49, 41]).flatten) := by
      refine ⟨by rw [List.length_append, List.length_append]; omega, fun c mc => ?_⟩
      rcases List.mem_append.mp mc with mc | mc
      · rcases List.mem_append.mp mc with mc | mc
        · exact r1 c mc
        · rw [List.mem_singleton] at mc; omega
      · exact r2 c mc
    clear q1 q2
    simp!
    refine lwrites (k := k + 49) (th _) fun s1 q1 => ?_
    simp!
    refine lreads (k := k + 48) (tm.od (by decide) s1.length).c (tm.od (by decide) s1.length).l fun s2 q2 => ?_
    have e0 := (q1.trans q2).get SN
    simp!
    refine pool e0 hl (by decide) fun o3 p3 => ?_
    simp!
    refine tree 7 w w7 (by omega) (k + 51) _ _ _ _ _ rfl p3 fun e2 s3 oe2 c3 => ?_
    have oe2 := Ex.ok_mono w7 oe2
    have tt2 := (tx_tb oe2).od (by decide) s3.length
    simp!
    refine ltext_ 7 e2 (by decide) oe2 (k + 53) _ _ _ ?_
    simp!
    refine lreads (k := k + 48) tt2.c tt2.l fun s4 q4 => ?_
    simp!
    refine lwrites (k := k + 49) (show Cl s4.length (.str [120]) from ⟨le_line (by simp), by decide⟩) fun s5 q5 => ?_
    simp!
    refine lreads (k := k + 48) (show Cl s5.length (.str [40, 97, 43, 48, 41]) from ⟨le_line (by simp), by decide⟩) (fun y e => by cases e; simp) fun s6 q6 => ?_
    rfl
  by_cases c9 : ch = 8
  · subst c9
    simp!
    have m0 := Int.emod_nonneg a (show (1000 : Int) ≠ 0 by decide)
    have m1 := Int.emod_lt_of_pos a (show (0 : Int) < 1000 by decide)
    generalize a % 1000 = m at m0 m1 ⊢
    have q1 := rep_len (a := [40]) (n := (3 * m).toNat)
    have r1 := rep_128 (a := [40]) (by decide) (3 * m).toNat
    have i1 : ([40] : List Nat).length = 1 := rfl
    rw [i1] at q1
    have te := tt.len
    refine ⟨.inl ⟨by decide, by decide⟩, ⟨by omega, by omega, le_line (by rw [i1]; omega)⟩, le_line (by omega), ?_⟩
    have tm : Tb 10000 ((List.replicate (3 * m).toNat [40]).flatten ++ e.tx) := by
      refine ⟨by rw [List.length_append]; omega, fun c mc => ?_⟩
      rcases List.mem_append.mp mc with mc | mc
      · exact r1 c mc
      · exact tt.cs c mc
    clear q1
    simp!
    refine lwrites (k := k + 49) (th _) fun s1 q1 => ?_
    simp!
    refine lreads (k := k + 48) (tm.od (by decide) s1.length).c (tm.od (by decide) s1.length).l fun s2 q2 => ?_
    have e0 := (q1.trans q2).get SN
    simp!
    refine pool e0 hl (by decide) fun o3 p3 => ?_
    simp!
    refine tree 7 w w7 (by omega) (k + 51) _ _ _ _ _ rfl p3 fun e2 s3 oe2 c3 => ?_
    have oe2 := Ex.ok_mono w7 oe2
    have tt2 := (tx_tb oe2).od (by decide) s3.length
    simp!
    refine ltext_ 7 e2 (by decide) oe2 (k + 53) _ _ _ ?_
    simp!
    refine lreads (k := k + 48) tt2.c tt2.l fun s4 q4 => ?_
    simp!
    refine lwrites (k := k + 49) (show Cl s4.length (.str [120]) from ⟨le_line (by simp), by decide⟩) fun s5 q5 => ?_
    simp!
    refine lreads (k := k + 48) (show Cl s5.length (.str [40, 97, 43, 48, 41]) from ⟨le_line (by simp), by decide⟩) (fun y e => by cases e; simp) fun s6 q6 => ?_
    rfl
  have ch9 : ch = 9 := by omega
  subst ch9
  simp!
  refine lwrites (k := k + 49) (th _) fun s1 q1 => ?_
  simp!
  refine lreads (k := k + 48) (oo.le q1.len).c (oo.le q1.len).l fun s2 q2 => ?_
  have e0 := (q1.trans q2).get SN
  simp!
  refine pool e0 hl (by decide) fun o3 p3 => ?_
  simp!
  refine tree 7 w w7 (by omega) (k + 51) _ _ _ _ _ rfl p3 fun e2 s3 oe2 c3 => ?_
  have oe2 := Ex.ok_mono w7 oe2
  have tt2 := (tx_tb oe2).od (by decide) s3.length
  simp!
  refine ltext_ 7 e2 (by decide) oe2 (k + 53) _ _ _ ?_
  simp!
  refine lreads (k := k + 48) tt2.c tt2.l fun s4 q4 => ?_
  simp!
  refine lwrites (k := k + 49) (show Cl s4.length (.str [120]) from ⟨le_line (by simp), by decide⟩) fun s5 q5 => ?_
  simp!
  refine lreads (k := k + 48) (show Cl s5.length (.str [40, 97, 43, 48, 41]) from ⟨le_line (by simp), by decide⟩) (fun y e => by cases e; simp) fun s6 q6 => ?_
  rfl
end Y.K_k14
set_option maxRecDepth 100000
set_option maxHeartbeats 0
open PySem PySem.W PySem.Calls PyProof.Rows
theorem PySem.Challenge.cw_pastless_k14_expressions_as_texts_holds : PySem.Challenge.rw_pastless_k14_expressions_as_texts.Holds := by
  w_on; o_law
  refine HandSHeadRun.head_any (r := OpenLaw.row PySem.Challenge.rw_pastless_k14_expressions_as_texts) (q := view (OpenLaw.row PySem.Challenge.rw_pastless_k14_expressions_as_texts).prog [37]) (H := Y.K_k14.hk) (ob := Y.K_k14.ob) (M := 20000) (loose := Y.K_k14.loose) (d := HandSHeadRun.topDef (OpenLaw.row PySem.Challenge.rw_pastless_k14_expressions_as_texts).prog 37) (kwd := []) Y.K_k14.ob_eq
    (by kernel_rfl) (fun s => by kernel_rfl) Y.K_k14.run (by kernel_rfl) (by kernel_rfl) (by kernel_rfl) (by rfl) (by first | assumption | decide +kernel) (by decide +kernel) ⟨rfl, rfl, rfl, rfl, rfl, by decide +kernel⟩ ?hw ?hc
  case hw => w_witness2
  case hc =>
    exact Y.walk_y (l := PySem.Challenge.rw_pastless_k14_expressions_as_texts) (m := 63) (k := 100) (x := "_law_script") Y.K_k14.L 24 (e := Y.K_k14.f_law) rfl (by decide) (by kernel_rfl) ⟨rfl, by decide, by decide⟩ Y.K_k14.stat rfl (by kernel_rfl) rfl rfl (fun w h y => Y.told_of y) fun ns hl => Y.K_k14.law hl
