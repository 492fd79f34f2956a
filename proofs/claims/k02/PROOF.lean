import PyProof.Rows.All
import Wide.All
import OpenK.AllK
import Wide.FinOn
import HandS.ForMost
import HandS.StrMore
import HandS.Exc
import HandS.TupAny
import HandS.IsInst
import HandS.Deep
import HandS.Wide
import HandS.Zip
import HandS.Walk
import HandS.WordsExc
import HandS.Defaults
import HandS.Style
import HandS.More
import HandS.Words
import KE.KStateDown
import HandS.Ends
import HandS.HeadEnd
import HandS.HeadHook1
import HandS.HeadHook2
import HandS.Head0
import HandS.Head1
import HandS.Head2
import PySem.Challenge.RW_leakpost_k02_words_within_words
set_option Elab.async false
set_option linter.all false
/-! A small language of my own: its values, its store, its meaning. -/
namespace Pl
open PySem

inductive D where
  | non | bl (b : Bool) | int (i : Int) | str (x : List Nat) | tup (ds : List D) | ref (n : Nat) | gl (n : Nat) | fro (ds : List D)
inductive Ob where
  | lst (ds : List D)
  | dct (kvs : List (D × D))
  | ins (c : Nat) (fs : List (Nat × D))
abbrev Sto := List Ob
abbrev Slo := List (Option D)
structure Xc where
  c : Nat
  fs : List (Nat × D)
inductive R (α : Type) where
  | ok (a : α) (S : Sto)
  | exc (x : Xc) (S : Sto)
  | bad
def R.bind {α β : Type} (r : R α) (f : α → Sto → R β) : R β := match r with
  | .ok a S => f a S
  | .exc x S => .exc x S
  | .bad => .bad
@[simp] theorem R.bind_ok {α β : Type} (a : α) (S : Sto) (f : α → Sto → R β) : (R.ok a S).bind f = f a S := rfl
@[simp] theorem R.bind_exc {α β : Type} (x : Xc) (S : Sto) (f : α → Sto → R β) : (R.exc x S : R α).bind f = .exc x S := rfl
@[simp] theorem R.bind_bad {α β : Type} (f : α → Sto → R β) : (R.bad : R α).bind f = .bad := rfl
theorem R.bind_assoc {α β γ : Type} (r : R α) (f : α → Sto → R β) (g : β → Sto → R γ) : (r.bind f).bind g = r.bind fun a S => (f a S).bind g := by
  cases r <;> rfl
/-- where no exception may leave -/
def R.nox {α : Type} (r : R α) : R α := match r with
  | .ok a S => .ok a S
  | _ => .bad
@[simp] theorem R.nox_ok {α : Type} (a : α) (S : Sto) : (R.ok a S).nox = .ok a S := rfl

inductive BOp where | add | sub | mul | fdiv | mod | pow
inductive COp where | eq | ne | lt | le | gt | ge | isin | notin | isN | notN
/-- classes that isinstance asks for -/
inductive Ty where | int | bool | str | list | tuple

/-- methods of lists -/
inductive LM where | insert | pop | popAt | reverse | clear | extend
mutual
inductive Ex where
  | var (i : Nat)
  | glo (n : Nat)
  | cst (d : D)
  | tup (es : List Ex)
  | bin (op : BOp) (a b : Ex)
  | neg (a : Ex)
  | cmp (op : COp) (a b : Ex)
  | chn (o1 o2 : COp) (a b c : Ex)
  | and_ (a b : Ex)
  | or_ (a b : Ex)
  | not_ (a : Ex)
  | ifx (c : Te) (a b : Ex)
  | idx (a b : Ex)
  | sli (a : Ex) (lo hi : Option Ex)
  | call (f : Nat) (es : List Ex)
  | callk (f : Nat) (es ks : List Ex) (perm : List Nat)
  | new (f : Fr)
  | len (e : Ex)
  | lenq (q : Sq)
  | all_ (q : Sq)
  | any_ (q : Sq)
  | tupq (q : Sq)
  | join (s : Ex) (q : Sq)
  | find3 (s t i : Ex)
  | part (s t : Ex)
  | isi (e : Ex) (t : Ty)
  | isi2 (e : Ex) (t u : Ty)
  | app (o e : Ex)
  | lm (m : LM) (o : Ex) (es : List Ex)
  | rev (e : Ex)
  | intb (e : Ex)
  | no
inductive Te where
  | ex (e : Ex)
  | cmp (op : COp) (a b : Ex)
  | chn (o1 o2 : COp) (a b c : Ex)
  | and_ (a b : Te)
  | or_ (a b : Te)
  | not_ (a : Te)
inductive Fr where
  | lst (es : List Ex)
  | lc (own : List (Str × Nat)) (tg : List Nat) (pat : Bool) (it : It) (cond : Option Te) (elt : Ex)
  | list (q : Sq)
  | cut (e : Ex) (lo hi : Option Ex)
inductive Sq where
  | ex (e : Ex)
  | fr (f : Fr)
inductive It where
  | sq (q : Sq)
  | str (e : Ex)
  | rng (hi : Ex)
  | rng2 (lo hi : Ex)
  | zip (a b : Sq)
  | enum (a : Sq)
end

/-! ### values -/
def lim : Nat := 100000
def scalE : D → D → Option Bool
  | .non, .non => some true
  | .non, .int _ => some false | .int _, .non => some false
  | .non, .bl _ => some false | .bl _, .non => some false
  | .non, .str _ => some false | .str _, .non => some false
  | .int i, .int j => some (decide (i = j))
  | .bl a, .bl b => some (decide (a = b))
  | .str x, .str y => some (decide (x = y))
  | .int _, .str _ => some false | .str _, .int _ => some false
  | .bl _, .str _ => some false | .str _, .bl _ => some false
  | _, _ => none
mutual
def pdR (g : Nat → Option PyData) : D → Option PyData
  | .non => some .none
  | .bl b => some (.bool b)
  | .int i => some (.int i)
  | .str x => some (.str ⟨x.toArray⟩)
  | .tup ds => (pdRs g ds).map .tuple
  | .ref n => g n
  | .gl _ => none
  | .fro ds => (pdRs g ds).map .list
def pdRs (g : Nat → Option PyData) : List D → Option (List PyData)
  | [] => some []
  | d :: ds => match pdR g d, pdRs g ds with
    | some x, some xs => some (x :: xs)
    | _, _ => none
end
/-- the data that a value is, lists to a depth -/
def pdN (S : Sto) : Nat → Nat → Option PyData
  | 0, _ => none
  | n + 1, i => match S[i]? with
    | some (.lst ds) => (pdRs (pdN S n) ds).map .list
    | _ => none
def pd (S : Sto) (d : D) : Option PyData := pdR (pdN S 4) d
def eqV (neg : Bool) (a b : D) (S : Sto) : R D := match scalE a b with
  | some r => .ok (.bl (r ^^ neg)) S
  | none => match pd S a, pd S b with
    | some x, some y => if SeqAt.shaped x && SeqAt.shaped y then .ok (.bl (PyData.eqv x y ^^ neg)) S else .bad
    | _, _ => .bad
def intC : COp → Int → Int → Option Bool
  | .lt, i, j => some (decide (i < j))
  | .le, i, j => some (decide (i ≤ j))
  | .gt, i, j => some (decide (j < i))
  | .ge, i, j => some (decide (j ≤ i))
  | _, _, _ => none
def flatD : D → Bool
  | .non => true | .bl _ => true | .int _ => true | .str _ => true
  | _ => false
def eqF : D → D → Bool
  | .non, .non => true
  | .bl a, .bl b => a == b
  | .bl a, .int b => (if a then 1 else 0) == b
  | .int a, .bl b => a == (if b then 1 else 0)
  | .int a, .int b => a == b
  | .str a, .str b => decide (a = b)
  | _, _ => false
/-- x in xs, the things of xs and x flat -/
def inF (x : D) (xs : List D) : Option Bool := if flatD x && xs.all flatD then some (xs.any fun y => eqF y x) else none
def inV (neg : Bool) (a b : D) (S : Sto) : R D := match a, b with
  | .str x, .str y => .ok (.bl ((!(Builtin.Str.occurrences ⟨y.toArray⟩ ⟨x.toArray⟩ 0 y.length 1).isEmpty) ^^ neg)) S
  | x, .tup ys => match inF x ys with
    | some r => .ok (.bl (r ^^ neg)) S
    | none => .bad
  | x, .ref i => match S[i]? with
    | some (.lst ys) => match inF x ys with
      | some r => .ok (.bl (r ^^ neg)) S
      | none => .bad
    | _ => .bad
  | _, _ => .bad
def cmpV (op : COp) (a b : D) (S : Sto) : R D := match op with
  | .eq => eqV false a b S
  | .ne => eqV true a b S
  | .isin => inV false a b S
  | .notin => inV true a b S
  | .isN => match b with
    | .non => .ok (.bl (match a with | .non => true | _ => false)) S
    | _ => .bad
  | .notN => match b with
    | .non => .ok (.bl (match a with | .non => false | _ => true)) S
    | _ => .bad
  | op => match a, b with
    | .int i, .int j => match intC op i j with
      | some r => .ok (.bl r) S
      | none => .bad
    | _, _ => .bad
def binV (op : BOp) (a b : D) (S : Sto) : R D := match op, a, b with
  | .add, .int i, .int j => .ok (.int (i + j)) S
  | .add, .str x, .str y => if x.length + y.length ≤ lim then .ok (.str (x ++ y)) S else .bad
  | .add, .tup x, .tup y => if x.length + y.length ≤ lim then .ok (.tup (x ++ y)) S else .bad
  | .add, .ref i, .ref j => match S[i]?, S[j]? with
    | some (.lst x), some (.lst y) => if x.length + y.length ≤ lim then .ok (.ref S.length) (S ++ [.lst (x ++ y)]) else .bad
    | _, _ => .bad
  | .sub, .int i, .int j => .ok (.int (i - j)) S
  | .mul, .int i, .int j => if j.natAbs < 2 ^ 63 then .ok (.int (i * j)) S else .bad
  | .fdiv, .int i, .int j => if 0 < j ∧ j < 2 ^ 30 then .ok (.int (i / j)) S else .bad
  | .mod, .int i, .int j => if 0 < j then .ok (.int (i % j)) S else .bad
  | .pow, .int i, .int j => if 0 ≤ j ∧ j ≤ 1000 ∧ i.natAbs < 2 ^ 62 then .ok (.int (i ^ j.toNat)) S else .bad
  | _, _, _ => .bad
def ixD (xs : List D) (i : Int) : Option D := L2.atI xs i
def idxV (a b : D) (S : Sto) : R D := match a, b with
  | .tup xs, .int i => match L2.atI xs i with
    | some d => .ok d S
    | none => .bad
  | .str xs, .int i => match (if xs.length ≤ lim then L2.atI xs i else none) with
    | some c => .ok (.str [c]) S
    | none => .bad
  | .ref n, .int i => match S[n]? with
    | some (.lst xs) => match L2.atI xs i with
      | some d => .ok d S
      | none => .bad
    | _ => .bad
  | _, _ => .bad
def cutL {α : Type} (xs : List α) (lo hi : Option Int) : List α := (xs.drop (HT.sIx xs.length 0 lo)).take (HT.sIx xs.length xs.length hi - HT.sIx xs.length 0 lo)
def sliV (a : D) (lo hi : Option Int) (S : Sto) : R D := match a with
  | .str x => if x.length ≤ lim then .ok (.str (cutL x lo hi)) S else .bad
  | .tup xs => .ok (.tup (cutL xs lo hi)) S
  | .ref n => match S[n]? with
    | some (.lst xs) => .ok (.ref S.length) (S ++ [.lst (cutL xs lo hi)])
    | _ => .bad
  | .fro xs => .ok (.ref S.length) (S ++ [.lst (cutL xs lo hi)])
  | _ => .bad
/-- truth -/
def truV (d : D) (S : Sto) : R Bool := match d with
  | .bl b => .ok b S
  | .non => .ok false S
  | .int i => .ok (i != 0) S
  | .str x => if x.length ≤ lim then .ok (x.length != 0) S else .bad
  | .tup ds => .ok (!ds.isEmpty) S
  | .ref n => match S[n]? with
    | some (.lst ds) => .ok (!ds.isEmpty) S
    | _ => .bad
  | .fro ds => .ok (!ds.isEmpty) S
  | .gl _ => .bad
/-- a row of things: of what stands in the store it leans on the places g; tup: a tuple, no list -/
structure Sv where
  ds : List D
  g : List Nat
  tup : Bool
/-- the things of a list or tuple that stands -/
def seqV (d : D) (S : Sto) : R Sv := match d with
  | .tup ds => .ok ⟨ds, [], true⟩ S
  | .fro ds => .ok ⟨ds, [], false⟩ S
  | .ref n => match S[n]? with
    | some (.lst ds) => .ok ⟨ds, [n], false⟩ S
    | _ => .bad
  | _ => .bad
def lenV (d : D) (S : Sto) : R D := match d with
  | .str x => if x.length ≤ lim then .ok (.int x.length) S else .bad
  | .tup ds => .ok (.int ds.length) S
  | .fro ds => .ok (.int ds.length) S
  | .ref n => match S[n]? with
    | some (.lst ds) => .ok (.int ds.length) S
    | _ => .bad
  | _ => .bad
def boolsD : List D → Option (List Bool)
  | [] => some []
  | .bl b :: r => (boolsD r).map fun bs => b :: bs
  | _ => none
def strsD : List D → Option (List (List Nat))
  | [] => some []
  | .str x :: r => (strsD r).map fun xs => x :: xs
  | _ => none
def joinL (s : List Nat) : List (List Nat) → List Nat
  | [] => []
  | [x] => x
  | x :: r => x ++ s ++ joinL s r
def tyOf : D → Sto → Option (List Ty)
  | .non, _ => some []
  | .bl _, _ => some [.bool, .int]
  | .int _, _ => some [.int]
  | .str _, _ => some [.str]
  | .tup _, _ => some [.tuple]
  | .ref n, S => match S[n]? with
    | some (.lst _) => some [.list]
    | _ => none
  | .gl _, _ => none
  | .fro _, _ => none
def Ty.eqb : Ty → Ty → Bool
  | .int, .int => true | .bool, .bool => true | .str, .str => true | .list, .list => true | .tuple, .tuple => true
  | _, _ => false
def isV (d : D) (ts : List Ty) (S : Sto) : R D := match tyOf d S with
  | some us => .ok (.bl (ts.any fun t => us.any fun u => t.eqb u)) S
  | none => .bad
open Classical in
/-- what the walk leans on stands as it stood -/
noncomputable def grd {α : Type} (g : List Nat) (S S' : Sto) (r : R α) : R α := if ∀ i ∈ g, S'[i]? = S[i]? then r else .bad
theorem grd_nil {α : Type} (S S' : Sto) (r : R α) : grd [] S S' r = r := by unfold grd; rw [if_pos]; simp
theorem grd_same {α : Type} (g : List Nat) (S : Sto) (r : R α) : grd g S S r = r := by unfold grd; rw [if_pos]; simp
/-- a target: one name, or names for a tuple's things -/
def setAll : List Nat → List D → Slo → Option Slo
  | [], [], ρ => some ρ
  | i :: is, d :: ds, ρ => setAll is ds (ρ.set i (some d))
  | _, _, _ => none
def bindTg (tg : List Nat) (pat : Bool) (d : D) (ρ : Slo) : Option Slo := match pat with
  | false => match tg with
    | [i] => some (ρ.set i (some d))
    | _ => none
  | true => match d with
    | .tup ds => setAll tg ds ρ
    | _ => none
def wipeD (ρ : Slo) : List Nat → Slo
  | [] => ρ
  | v :: vs => (wipeD ρ vs).set v none
noncomputable def lcL (g : List Nat) (f : D → Sto → R (Option D)) : List D → Sto → R (List D)
  | [], S => .ok [] S
  | d :: r, S => (f d S).nox.bind fun o S1 => grd g S S1 ((lcL g f r S1).bind fun ds S2 => .ok (match o with | some x => x :: ds | none => ds) S2)

def lmV (m : LM) (n : Nat) (ds : List D) (S : Sto) : R D := match S[n]? with
  | some (.lst xs) => match m, ds with
    | .insert, [.int i, d] => if xs.length < lim ∧ 0 ≤ i ∧ i < 2 ^ 63 then .ok .non (S.set n (.lst (xs.take i.toNat ++ [d] ++ xs.drop i.toNat))) else .bad
    | .pop, [] => match xs[xs.length - 1]? with
      | some d => .ok d (S.set n (.lst xs.dropLast))
      | none => .bad
    | .popAt, [.int i] => if -(2 ^ 63) ≤ i ∧ i < 2 ^ 63 then match seqIndex? i xs.length with
        | some k => match xs[k]? with
          | some d => .ok d (S.set n (.lst (xs.eraseIdx k)))
          | none => .bad
        | none => .bad
      else .bad
    | .reverse, [] => .ok .non (S.set n (.lst xs.reverse))
    | .clear, [] => .ok .non (S.set n (.lst []))
    | .extend, [.ref m] => match S[m]? with
      | some (.lst ys) => if xs.length + ys.length ≤ lim then .ok .non (S.set n (.lst (xs ++ ys))) else .bad
      | _ => .bad
    | _, _ => .bad
  | _ => .bad
def revV (d : D) (S : Sto) : R D := match d with
  | .fro xs => .ok (.ref S.length) (S ++ [.lst xs.reverse])
  | .ref n => match S[n]? with
    | some (.lst xs) => .ok (.ref S.length) (S ++ [.lst xs.reverse])
    | _ => .bad
  | _ => .bad
/-- in another order -/
def permL {α : Type} (perm : List Nat) (xs : List α) : List α := perm.filterMap fun i => xs[i]?

/-! ### expressions -/
section
variable (C : Nat → List D → Sto → R D) (G : Nat → Option D)
mutual
noncomputable def ev : Ex → Slo → Sto → R D
  | .var i, ρ, S => match ρ[i]? with
    | some (some d) => .ok d S
    | _ => .bad
  | .glo n, _, S => match G n with
    | some d => .ok d S
    | none => .bad
  | .cst d, _, S => .ok d S
  | .tup es, ρ, S => (evs es ρ S).bind fun ds S1 => if ds.length ≤ lim then .ok (.tup ds) S1 else .bad
  | .bin op a b, ρ, S => (ev a ρ S).bind fun x S1 => (ev b ρ S1).bind fun y S2 => binV op x y S2
  | .neg a, ρ, S => (ev a ρ S).bind fun x S1 => match x with
    | .int i => .ok (.int (-i)) S1
    | _ => .bad
  | .cmp op a b, ρ, S => (ev a ρ S).bind fun x S1 => (ev b ρ S1).bind fun y S2 => cmpV op x y S2
  | .chn o1 o2 a b c, ρ, S => (ev a ρ S).bind fun x S1 => (ev b ρ S1).bind fun y S2 => (cmpV o1 x y S2).bind fun z S3 => match z with
    | .bl true => (ev c ρ S3).bind fun u S4 => cmpV o2 y u S4
    | .bl false => .ok (.bl false) S3
    | _ => .bad
  | .and_ a b, ρ, S => (ev a ρ S).bind fun x S1 => match x with
    | .bl true => ev b ρ S1
    | .bl false => .ok (.bl false) S1
    | _ => .bad
  | .or_ a b, ρ, S => (ev a ρ S).bind fun x S1 => match x with
    | .bl true => .ok (.bl true) S1
    | .bl false => ev b ρ S1
    | _ => .bad
  | .not_ a, ρ, S => (ev a ρ S).bind fun x S1 => match x with
    | .bl c => .ok (.bl (!c)) S1
    | _ => .bad
  | .ifx c a b, ρ, S => (evT c ρ S).bind fun k S1 => match k with
    | true => ev a ρ S1
    | false => ev b ρ S1
  | .idx a b, ρ, S => (ev a ρ S).bind fun x S1 => (ev b ρ S1).bind fun y S2 => idxV x y S2
  | .sli a lo hi, ρ, S => (ev a ρ S).bind fun x S1 => (evo lo ρ S1).bind fun l S2 => (evo hi ρ S2).bind fun h S3 => sliV x l h S3
  | .call f es, ρ, S => (evs es ρ S).bind fun ds S1 => C f ds S1
  | .callk f es ks perm, ρ, S => (evs es ρ S).bind fun ds S1 => (evs ks ρ S1).bind fun zs S2 => C f (permL perm (ds ++ zs)) S2
  | .new q, ρ, S => (evF q ρ S).bind fun ds S1 => .ok (.ref S1.length) (S1 ++ [.lst ds])
  | .len e, ρ, S => (ev e ρ S).bind fun d S1 => lenV d S1
  | .lenq q, ρ, S => (evQ q ρ S).bind fun p S1 => .ok (.int p.ds.length) S1
  | .all_ q, ρ, S => (evQ q ρ S).bind fun p S1 => match (if p.tup then none else boolsD p.ds) with
    | some bs => .ok (.bl (bs.all id)) S1
    | none => .bad
  | .any_ q, ρ, S => (evQ q ρ S).bind fun p S1 => match (if p.tup then none else boolsD p.ds) with
    | some bs => .ok (.bl (bs.any id)) S1
    | none => .bad
  | .tupq q, ρ, S => (evQ q ρ S).bind fun p S1 => .ok (.tup p.ds) S1
  | .join s q, ρ, S => (ev s ρ S).bind fun x S1 => match x with
    | .str t => (evQ q ρ S1).bind fun p S2 => match strsD p.ds with
      | some xs => if (xs.map List.length).sum + xs.length * t.length ≤ lim then .ok (.str (joinL t xs)) S2 else .bad
      | none => .bad
    | _ => .bad
  | .find3 s t i, ρ, S => (ev s ρ S).bind fun x S1 => match x with
    | .str a => (ev t ρ S1).bind fun y S2 => (ev i ρ S2).bind fun z S3 => match y, z with
      | .str b, .int j => .ok (.int (Txt.find3 ⟨a.toArray⟩ ⟨b.toArray⟩ j)) S3
      | _, _ => .bad
    | _ => .bad
  | .part s t, ρ, S => (ev s ρ S).bind fun x S1 => match x with
    | .str a => (ev t ρ S1).bind fun y S2 => match y with
      | .str b => if b.length = 0 ∨ lim < a.length then .bad else
        .ok (.tup [.str (Txt.partition ⟨a.toArray⟩ ⟨b.toArray⟩).1.cps.toList, .str (Txt.partition ⟨a.toArray⟩ ⟨b.toArray⟩).2.1.cps.toList, .str (Txt.partition ⟨a.toArray⟩ ⟨b.toArray⟩).2.2.cps.toList]) S2
      | _ => .bad
    | _ => .bad
  | .isi e t, ρ, S => (ev e ρ S).bind fun x S1 => isV x [t] S1
  | .isi2 e t u, ρ, S => (ev e ρ S).bind fun x S1 => isV x [t, u] S1
  | .app o e, ρ, S => (ev o ρ S).bind fun x S1 => match x with
    | .ref n => match S1[n]? with
      | some (.lst _) => (ev e ρ S1).bind fun d S2 => match S2[n]? with
        | some (.lst ds) => if ds.length < lim then .ok .non (S2.set n (.lst (ds ++ [d]))) else .bad
        | _ => .bad
      | _ => .bad
    | _ => .bad
  | .lm m o es, ρ, S => (ev o ρ S).bind fun x S1 => match x with
    | .ref n => match S1[n]? with
      | some (.lst _) => (evs es ρ S1).bind fun ds S2 => lmV m n ds S2
      | _ => .bad
    | _ => .bad
  | .rev e, ρ, S => (ev e ρ S).bind fun x S1 => revV x S1
  | .intb e, ρ, S => (ev e ρ S).bind fun x S1 => match x with
    | .int i => .ok (.int i) S1
    | .bl b => .ok (.int (if b then 1 else 0)) S1
    | _ => .bad
  | .no, _, _ => .bad
noncomputable def evs : List Ex → Slo → Sto → R (List D)
  | [], _, S => .ok [] S
  | e :: es, ρ, S => (ev e ρ S).bind fun d S1 => (evs es ρ S1).bind fun ds S2 => .ok (d :: ds) S2
noncomputable def evo : Option Ex → Slo → Sto → R (Option Int)
  | none, _, S => .ok none S
  | some e, ρ, S => (ev e ρ S).bind fun d S1 => match d with
    | .int i => .ok (some i) S1
    | _ => .bad
noncomputable def evT : Te → Slo → Sto → R Bool
  | .ex e, ρ, S => (ev e ρ S).bind fun d S1 => truV d S1
  | .cmp op a b, ρ, S => (ev a ρ S).bind fun x S1 => (ev b ρ S1).bind fun y S2 => (cmpV op x y S2).bind fun z S3 => match z with
    | .bl k => .ok k S3
    | _ => .bad
  | .chn o1 o2 a b c, ρ, S => (ev a ρ S).bind fun x S1 => (ev b ρ S1).bind fun y S2 => (cmpV o1 x y S2).bind fun z S3 => match z with
    | .bl true => (ev c ρ S3).bind fun u S4 => (cmpV o2 y u S4).bind fun z S5 => match z with
      | .bl k => .ok k S5
      | _ => .bad
    | .bl false => .ok false S3
    | _ => .bad
  | .and_ a b, ρ, S => (evT a ρ S).bind fun k S1 => match k with
    | true => evT b ρ S1
    | false => .ok false S1
  | .or_ a b, ρ, S => (evT a ρ S).bind fun k S1 => match k with
    | true => .ok true S1
    | false => evT b ρ S1
  | .not_ a, ρ, S => (evT a ρ S).bind fun k S1 => .ok (!k) S1
noncomputable def evto : Option Te → Slo → Sto → R Bool
  | none, _, S => .ok true S
  | some t, ρ, S => evT t ρ S
/-- a list that is new -/
noncomputable def evF : Fr → Slo → Sto → R (List D)
  | .lst es, ρ, S => (evs es ρ S).bind fun ds S1 => if ds.length ≤ lim then .ok ds S1 else .bad
  | .lc own tg pat it cond elt, ρ, S => (evI it ρ S).bind fun p S1 => if p.ds.length ≤ lim then
      lcL p.g (fun d S2 => match bindTg tg pat d (wipeD ρ (own.map Prod.snd)) with
        | some ρ1 => (evto cond ρ1 S2).bind fun k S3 => match k with
          | true => (ev elt ρ1 S3).bind fun x S4 => .ok (some x) S4
          | false => .ok none S3
        | none => .bad) p.ds S1
      else .bad
  | .list q, ρ, S => (evQ q ρ S).bind fun p S1 => .ok p.ds S1
  | .cut e lo hi, ρ, S => (ev e ρ S).bind fun d S1 => (evo lo ρ S1).bind fun l S2 => (evo hi ρ S2).bind fun h S3 => (seqV d S3).bind fun p S4 => if p.tup then .bad else .ok (cutL p.ds l h) S4
noncomputable def evQ : Sq → Slo → Sto → R Sv
  | .ex e, ρ, S => (ev e ρ S).bind fun d S1 => seqV d S1
  | .fr f, ρ, S => (evF f ρ S).bind fun ds S1 => .ok ⟨ds, [], false⟩ S1
noncomputable def evI : It → Slo → Sto → R Sv
  | .sq q, ρ, S => evQ q ρ S
  | .str e, ρ, S => (ev e ρ S).bind fun d S1 => match d with
    | .str x => .ok ⟨x.map fun c => .str [c], [], false⟩ S1
    | _ => .bad
  | .rng e, ρ, S => (ev e ρ S).bind fun d S1 => match d with
    | .int n => if -100000 ≤ n ∧ n ≤ 100000 then .ok ⟨(List.range n.toNat).map fun k => .int (k : Nat), [], false⟩ S1 else .bad
    | _ => .bad
  | .rng2 a b, ρ, S => (ev a ρ S).bind fun x S1 => (ev b ρ S1).bind fun y S2 => match x, y with
    | .int i, .int j => if -100000 ≤ i ∧ i ≤ 100000 ∧ -100000 ≤ j ∧ j ≤ 100000 then .ok ⟨(List.range (j - i).toNat).map fun k => .int (i + (k : Nat)), [], false⟩ S2 else .bad
    | _, _ => .bad
  | .zip a b, ρ, S => (evQ a ρ S).bind fun p S1 => (evQ b ρ S1).bind fun q S2 => grd p.g S1 S2 (if p.tup = q.tup then .ok ⟨(p.ds.zip q.ds).map fun xy => .tup [xy.1, xy.2], p.g ++ q.g, false⟩ S2 else .bad)
  | .enum a, ρ, S => (evQ a ρ S).bind fun p S1 => if p.tup then .bad else .ok ⟨((List.range p.ds.length).zip p.ds).map fun xy => .tup [.int (xy.1 : Nat), xy.2], p.g, false⟩ S1
end
end

/-! ### statements -/
inductive Sm where
  | asg (i : Nat) (e : Ex)
  | asgT (is : List Nat) (e : Ex)
  | setI (o i e : Ex)
  | augI (op : BOp) (o i e : Ex)
  | aug (op : BOp) (i : Nat) (e : Ex)
  | expr (e : Ex)
  | if_ (c : Te) (a b : List Sm)
  | for_ (tg : List Nat) (pat : Bool) (it : It) (b : List Sm)
  | while_ (c : Te) (b : List Sm)
  | ret (e : Ex)
  | retN
  | pass | brk | cont | no
inductive O where
  | next (ρ : Slo) (S : Sto) | brk (ρ : Slo) (S : Sto) | cont (ρ : Slo) (S : Sto)
  | ret (d : D) (S : Sto)
  | exc (x : Xc) (S : Sto)
  | bad
def R.o {α : Type} (r : R α) (f : α → Sto → O) : O := match r with
  | .ok a S => f a S
  | .exc x S => .exc x S
  | .bad => .bad
@[simp] theorem R.o_ok {α : Type} (a : α) (S : Sto) (f : α → Sto → O) : (R.ok a S).o f = f a S := rfl
@[simp] theorem R.o_exc {α : Type} (x : Xc) (S : Sto) (f : α → Sto → O) : (R.exc x S : R α).o f = .exc x S := rfl
@[simp] theorem R.o_bad {α : Type} (f : α → Sto → O) : (R.bad : R α).o f = .bad := rfl
def O.seq (o : O) (f : Slo → Sto → O) : O := match o with
  | .next ρ S => f ρ S
  | .brk ρ S => .brk ρ S
  | .cont ρ S => .cont ρ S
  | .ret d S => .ret d S
  | .exc x S => .exc x S
  | .bad => .bad
@[simp] theorem O.seq_next (ρ : Slo) (S : Sto) (f : Slo → Sto → O) : (O.next ρ S).seq f = f ρ S := rfl
@[simp] theorem O.seq_brk (ρ : Slo) (S : Sto) (f : Slo → Sto → O) : (O.brk ρ S).seq f = .brk ρ S := rfl
@[simp] theorem O.seq_cont (ρ : Slo) (S : Sto) (f : Slo → Sto → O) : (O.cont ρ S).seq f = .cont ρ S := rfl
@[simp] theorem O.seq_ret (d : D) (S : Sto) (f : Slo → Sto → O) : (O.ret d S).seq f = .ret d S := rfl
@[simp] theorem O.seq_exc (x : Xc) (S : Sto) (f : Slo → Sto → O) : (O.exc x S).seq f = .exc x S := rfl
@[simp] theorem O.seq_bad (f : Slo → Sto → O) : O.bad.seq f = .bad := rfl
/-- behind a loop's turn -/
def O.turn (o : O) (f : Slo → Sto → O) : O := match o with
  | .next ρ S => f ρ S
  | .brk ρ S => .next ρ S
  | .cont ρ S => f ρ S
  | .ret d S => .ret d S
  | .exc x S => .exc x S
  | .bad => .bad
@[simp] theorem O.turn_next (ρ : Slo) (S : Sto) (f : Slo → Sto → O) : (O.next ρ S).turn f = f ρ S := rfl
@[simp] theorem O.turn_brk (ρ : Slo) (S : Sto) (f : Slo → Sto → O) : (O.brk ρ S).turn f = .next ρ S := rfl
@[simp] theorem O.turn_cont (ρ : Slo) (S : Sto) (f : Slo → Sto → O) : (O.cont ρ S).turn f = f ρ S := rfl
@[simp] theorem O.turn_ret (d : D) (S : Sto) (f : Slo → Sto → O) : (O.ret d S).turn f = .ret d S := rfl
@[simp] theorem O.turn_exc (x : Xc) (S : Sto) (f : Slo → Sto → O) : (O.exc x S).turn f = .exc x S := rfl
@[simp] theorem O.turn_bad (f : Slo → Sto → O) : O.bad.turn f = .bad := rfl
open Classical in
noncomputable def grdO (g : List Nat) (S S' : Sto) (r : O) : O := if ∀ i ∈ g, S'[i]? = S[i]? then r else .bad
theorem grdO_nil (S S' : Sto) (r : O) : grdO [] S S' r = r := by unfold grdO; rw [if_pos]; simp
theorem grdO_same (g : List Nat) (S : Sto) (r : O) : grdO g S S r = r := by unfold grdO; rw [if_pos]; simp
noncomputable def forL (g : List Nat) (tg : List Nat) (pat : Bool) (f : Slo → Sto → O) : List D → Slo → Sto → O
  | [], ρ, S => .next ρ S
  | d :: r, ρ, S => match bindTg tg pat d ρ with
    | some ρ1 => (f ρ1 S).turn fun ρ2 S2 => grdO g S S2 (forL g tg pat f r ρ2 S2)
    | none => .bad
noncomputable def whl (c : Slo → Sto → R Bool) (f : Slo → Sto → O) : Nat → Slo → Sto → O
  | 0, _, _ => .bad
  | n + 1, ρ, S => (c ρ S).o fun k S1 => match k with
    | true => (f ρ S1).turn fun ρ2 S2 => whl c f n ρ2 S2
    | false => .next ρ S1
/-- the turns that a while may have -/
def fuel : Nat := 1000000
def setIV (o i d : D) (S : Sto) : R Unit := match o, i with
  | .ref n, .int k => match S[n]? with
    | some (.lst ds) => match L2.ixN ds.length k with
      | some j => .ok () (S.set n (.lst (ds.set j d)))
      | none => .bad
    | _ => .bad
  | _, _ => .bad
/-- x op= y -/
def augV (op : BOp) (a b : D) (S : Sto) : R D := match op, a, b with
  | .add, .int i, .int j => .ok (.int (i + j)) S
  | .add, .str x, .str y => if x.length + y.length ≤ lim then .ok (.str (x ++ y)) S else .bad
  | .sub, .int i, .int j => .ok (.int (i - j)) S
  | _, _, _ => .bad
/-- o[k], k a whole number that is not negative -/
def getIV (o i : D) (S : Sto) : R D := match o, i with
  | .ref n, .int k => match S[n]? with
    | some (.lst ds) => if 0 ≤ k then match ds[k.toNat]? with
        | some d => .ok d S
        | none => .bad
      else .bad
    | _ => .bad
  | _, _ => .bad
section
variable (C : Nat → List D → Sto → R D) (G : Nat → Option D)
mutual
noncomputable def ex : Sm → Slo → Sto → O
  | .asg i e, ρ, S => (ev C G e ρ S).o fun d S1 => .next (ρ.set i (some d)) S1
  | .asgT is e, ρ, S => (ev C G e ρ S).o fun d S1 => match bindTg is true d ρ with
    | some ρ1 => .next ρ1 S1
    | none => .bad
  | .setI o i e, ρ, S => (ev C G e ρ S).o fun d S1 => (ev C G o ρ S1).o fun x S2 => (ev C G i ρ S2).o fun y S3 => (setIV x y d S3).o fun _ S4 => .next ρ S4
  | .augI op o i e, ρ, S => (ev C G o ρ S).o fun x S1 => (ev C G i ρ S1).o fun y S2 => (getIV x y S2).o fun z S3 => (ev C G e ρ S3).o fun d S4 => (augV op z d S4).o fun u S5 => (setIV x y u S5).o fun _ S6 => .next ρ S6
  | .aug op i e, ρ, S => match ρ[i]? with
    | some (some x) => (ev C G e ρ S).o fun d S1 => (augV op x d S1).o fun u S2 => .next (ρ.set i (some u)) S2
    | _ => .bad
  | .expr e, ρ, S => (ev C G e ρ S).o fun _ S1 => .next ρ S1
  | .if_ c a b, ρ, S => (evT C G c ρ S).o fun k S1 => match k with
    | true => exs a ρ S1
    | false => exs b ρ S1
  | .for_ tg pat it b, ρ, S => (evI C G it ρ S).o fun sv S1 => forL sv.g tg pat (fun ρ S => exs b ρ S) sv.ds ρ S1
  | .while_ c b, ρ, S => whl (fun ρ S => evT C G c ρ S) (fun ρ S => exs b ρ S) fuel ρ S
  | .ret e, ρ, S => (ev C G e ρ S).o fun d S1 => .ret d S1
  | .retN, _, S => .ret .non S
  | .pass, ρ, S => .next ρ S
  | .brk, ρ, S => .brk ρ S
  | .cont, ρ, S => .cont ρ S
  | .no, _, _ => .bad
noncomputable def exs : List Sm → Slo → Sto → O
  | [], ρ, S => .next ρ S
  | s :: r, ρ, S => (ex s ρ S).seq fun ρ1 S1 => exs r ρ1 S1
end
end
/-- a def: the count of its parameters, of its slots, its body -/
structure Fn where
  ps : Nat
  sl : Nat
  body : List Sm
def O.ret? (o : O) : R D := match o with
  | .next _ S => .ok .non S
  | .ret d S => .ok d S
  | .exc x S => .exc x S
  | _ => .bad
def startD (n m : Nat) (ds : List D) : Slo := ds.map some ++ List.replicate (m - n) none
noncomputable def runF (C : Nat → List D → Sto → R D) (G : Nat → Option D) (fn : Fn) (ds : List D) (S : Sto) : R D :=
  if ds.length = fn.ps then (exs C G fn.body (startD fn.ps fn.sl ds) S).ret? else .bad
/-- a table of defs; what its defs do, so many calls deep -/
abbrev Tab := Nat → Option Fn
noncomputable def run (T : Tab) (G : Nat → Option D) : Nat → Nat → List D → Sto → R D
  | 0, _, _, _ => .bad
  | k + 1, f, ds, S => match T f with
    | some fn => runF (run T G k) G fn ds S
    | none => .bad
end Pl

set_option maxHeartbeats 1000000
/-! How the values and the store of Pl stand in the model's heap, as HandS sees it. -/
namespace Pl
open PySem L2

/-- a list that is known to the object: it can't be changed -/
def SqF (K : PySem.W.Frag) (H : Hp) (a : Addr) (xs : List V) : Prop := (∃ o, H a = some (.frz o (.lst xs))) ∨ SqL K (fun _ => none) a xs
theorem SqF.l {K : PySem.W.Frag} {H : Hp} {a : Addr} {xs : List V} (h : SqF K H a xs) : SqL K H a xs := by
  rcases h with ⟨o, h⟩ | h | h
  · exact .inl (.inr ⟨o, h⟩)
  · rcases h with h | ⟨o, h⟩ <;> cases h
  · exact .inr h
section
variable (K : PySem.W.Frag) (nm : Nat → Addr)
mutual
def Rep (ι : List Addr) (H : Hp) : D → V → Prop
  | .non, v => v = .non
  | .bl b, v => v = .bl b
  | .int i, v => v = .int i
  | .str x, v => v = .str ⟨x.toArray⟩
  | .tup ds, v => ∃ a xs, v = .ref a ∧ SqT K H a xs ∧ Reps ι H ds xs
  | .ref n, v => ∃ a, ι[n]? = some a ∧ v = .ref a
  | .gl n, v => v = .ref (nm n)
  | .fro ds, v => ∃ a xs, v = .ref a ∧ SqF K H a xs ∧ Reps ι H ds xs
def Reps (ι : List Addr) (H : Hp) : List D → List V → Prop
  | [], xs => xs = []
  | d :: ds, xs => ∃ v r, xs = v :: r ∧ Rep ι H d v ∧ Reps ι H ds r
end
def ObR (ι : List Addr) (H : Hp) (a : Addr) : Ob → Prop
  | .lst ds => ∃ xs, H a = some (.lst xs) ∧ Reps K nm ι H ds xs
  | _ => False
structure Rel (ι : List Addr) (S : Sto) (H : Hp) : Prop where
  len : ι.length = S.length
  nd : ι.Nodup
  ob : ∀ (i : Nat) (a : Addr) (o : Ob), ι[i]? = some a → S[i]? = some o → ObR K nm ι H a o
end
/-- from (ι, H) to (ι', H'): places come behind, all that is tracked beside the store stays -/
structure Ex' (ι : List Addr) (H : Hp) (ι' : List Addr) (H' : Hp) : Prop where
  pre : ∃ t, ι' = ι ++ t
  keep : ∀ b o, H b = some o → b ∉ ι → H' b = some o ∧ b ∉ ι'
section
variable {K : PySem.W.Frag} {nm : Nat → Addr} {ι ι' ι2 : List Addr} {H H' H2 : Hp} {S : Sto}
theorem Ex'.refl : Ex' ι H ι H := ⟨⟨[], by simp⟩, fun _ _ h n => ⟨h, n⟩⟩
theorem Ex'.trans (a : Ex' ι H ι' H') (b : Ex' ι' H' ι2 H2) : Ex' ι H ι2 H2 := by
  obtain ⟨t, rfl⟩ := a.pre
  obtain ⟨u, rfl⟩ := b.pre
  refine ⟨⟨t ++ u, by simp⟩, fun x o h n => ?_⟩
  obtain ⟨h1, n1⟩ := a.keep x o h n
  exact b.keep x o h1 n1
theorem Ex'.at_ (e : Ex' ι H ι' H') {i : Nat} {a : Addr} (h : ι[i]? = some a) : ι'[i]? = some a := by
  obtain ⟨t, rfl⟩ := e.pre
  have hl : i < ι.length := (List.getElem?_eq_some_iff.mp h).1
  rw [List.getElem?_append_left hl]
  exact h
/-- no tuple stands at a place of the store -/
theorem Rel.nt (r : Rel K nm ι S H) {a : Addr} (h : a ∈ ι) : (∀ xs, H a ≠ some (.tup xs)) ∧ (∀ o u, H a ≠ some (.frz o u)) := by
  obtain ⟨i, hi, e⟩ := List.mem_iff_getElem.mp h
  have hs : i < S.length := by rw [← r.len]; exact hi
  have q := r.ob i a S[i] (by rw [List.getElem?_eq_getElem hi, e]) (List.getElem?_eq_getElem hs)
  cases hS : S[i] with
  | lst ds =>
    rw [hS] at q
    obtain ⟨xs, h1, _⟩ := q
    exact ⟨fun ys e2 => by (rw [h1] at e2; cases e2), fun o u e2 => by (rw [h1] at e2; cases e2)⟩
  | dct kvs =>
    rw [hS] at q
    exact q.elim
  | ins c fs =>
    rw [hS] at q
    exact q.elim
theorem Rel.sqt (r : Rel K nm ι S H) (e : Ex' ι H ι' H') {a : Addr} {xs : List V} (h : SqT K H a xs) : SqT K H' a xs := by
  rcases h with (h | ⟨o, h⟩) | h
  · exact .inl (.inl (e.keep a _ h fun hm => (r.nt hm).1 _ h).1)
  · exact .inl (.inr ⟨o, (e.keep a _ h fun hm => (r.nt hm).2 _ _ h).1⟩)
  · exact .inr h
theorem Rel.sqf (r : Rel K nm ι S H) (e : Ex' ι H ι' H') {a : Addr} {xs : List V} (h : SqF K H a xs) : SqF K H' a xs := by
  rcases h with ⟨o, h⟩ | h
  · exact .inl ⟨o, (e.keep a _ h fun hm => (r.nt hm).2 _ _ h).1⟩
  · exact .inr h
mutual
theorem Rep.to (hp : ∀ (i : Nat) (a : Addr), ι[i]? = some a → ι'[i]? = some a) (ht : ∀ a xs, SqT K H a xs → SqT K H' a xs) (hf : ∀ a xs, SqF K H a xs → SqF K H' a xs) : ∀ {d : D} {v : V}, Rep K nm ι H d v → Rep K nm ι' H' d v
  | .non, _, h => h
  | .bl _, _, h => h
  | .int _, _, h => h
  | .str _, _, h => h
  | .tup ds, _, h => by
    obtain ⟨a, xs, h1, h2, h3⟩ := h
    exact ⟨a, xs, h1, ht _ _ h2, Reps.to hp ht hf h3⟩
  | .ref n, _, h => by
    obtain ⟨a, h1, h2⟩ := h
    exact ⟨a, hp _ _ h1, h2⟩
  | .gl _, _, h => h
  | .fro ds, _, h => by
    obtain ⟨a, xs, h1, h2, h3⟩ := h
    exact ⟨a, xs, h1, hf _ _ h2, Reps.to hp ht hf h3⟩
theorem Reps.to (hp : ∀ (i : Nat) (a : Addr), ι[i]? = some a → ι'[i]? = some a) (ht : ∀ a xs, SqT K H a xs → SqT K H' a xs) (hf : ∀ a xs, SqF K H a xs → SqF K H' a xs) : ∀ {ds : List D} {xs : List V}, Reps K nm ι H ds xs → Reps K nm ι' H' ds xs
  | [], _, h => h
  | d :: ds, _, h => by
    obtain ⟨v, w, h1, h2, h3⟩ := h
    exact ⟨v, w, h1, Rep.to hp ht hf h2, Reps.to hp ht hf h3⟩
end
theorem Rep.mono (r : Rel K nm ι S H) (e : Ex' ι H ι' H') {d : D} {v : V} (h : Rep K nm ι H d v) : Rep K nm ι' H' d v := Rep.to (fun _ _ q => e.at_ q) (fun _ _ q => r.sqt e q) (fun _ _ q => r.sqf e q) h
theorem Reps.mono (r : Rel K nm ι S H) (e : Ex' ι H ι' H') {ds : List D} {xs : List V} (h : Reps K nm ι H ds xs) : Reps K nm ι' H' ds xs := Reps.to (fun _ _ q => e.at_ q) (fun _ _ q => r.sqt e q) (fun _ _ q => r.sqf e q) h
theorem Reps.length : ∀ {ds : List D} {xs : List V}, Reps K nm ι H ds xs → xs.length = ds.length
  | [], _, h => by cases h; rfl
  | d :: ds, _, h => by
    obtain ⟨v, w, rfl, _, h3⟩ := h
    simp [Reps.length h3]
theorem Reps.get : ∀ {ds : List D} {xs : List V} {i : Nat} {d : D}, Reps K nm ι H ds xs → ds[i]? = some d → ∃ v, xs[i]? = some v ∧ Rep K nm ι H d v
  | [], _, _, _, _, h => by simp at h
  | d :: ds, _, 0, _, h, e => by
    obtain ⟨v, w, rfl, h2, _⟩ := h
    simp at e
    subst e
    exact ⟨v, rfl, h2⟩
  | d :: ds, _, i + 1, d2, h, e => by
    obtain ⟨v, w, rfl, _, h3⟩ := h
    obtain ⟨u, h4, h5⟩ := Reps.get h3 (i := i) (by simpa using e)
    exact ⟨u, by simpa using h4, h5⟩
theorem Reps.get' : ∀ {ds : List D} {xs : List V} {i : Nat} {v : V}, Reps K nm ι H ds xs → xs[i]? = some v → ∃ d, ds[i]? = some d ∧ Rep K nm ι H d v
  | [], _, _, _, h, e => by cases h; simp at e
  | d :: ds, _, 0, _, h, e => by
    obtain ⟨v, w, rfl, h2, _⟩ := h
    simp at e
    subst e
    exact ⟨d, rfl, h2⟩
  | d :: ds, _, i + 1, d2, h, e => by
    obtain ⟨v, w, rfl, _, h3⟩ := h
    obtain ⟨u, h4, h5⟩ := Reps.get' h3 (i := i) (by simpa using e)
    exact ⟨u, by simpa using h4, h5⟩
theorem Reps.append : ∀ {ds es : List D} {xs ys : List V}, Reps K nm ι H ds xs → Reps K nm ι H es ys → Reps K nm ι H (ds ++ es) (xs ++ ys)
  | [], _, _, _, h, g => by cases h; exact g
  | d :: ds, _, _, _, h, g => by
    obtain ⟨v, w, rfl, h2, h3⟩ := h
    exact ⟨v, w ++ _, rfl, h2, Reps.append h3 g⟩
theorem Reps.drop : ∀ {ds : List D} {xs : List V} (n : Nat), Reps K nm ι H ds xs → Reps K nm ι H (ds.drop n) (xs.drop n)
  | _, _, 0, h => h
  | [], _, _ + 1, h => by cases h; rfl
  | d :: ds, _, n + 1, h => by
    obtain ⟨v, w, rfl, _, h3⟩ := h
    exact Reps.drop n h3
theorem Reps.take : ∀ {ds : List D} {xs : List V} (n : Nat), Reps K nm ι H ds xs → Reps K nm ι H (ds.take n) (xs.take n)
  | _, _, 0, h => rfl
  | [], _, _ + 1, h => by cases h; rfl
  | d :: ds, _, n + 1, h => by
    obtain ⟨v, w, rfl, h2, h3⟩ := h
    exact ⟨v, _, rfl, h2, Reps.take n h3⟩
theorem Reps.set : ∀ {ds : List D} {xs : List V} {d : D} {v : V} (n : Nat), Reps K nm ι H ds xs → Rep K nm ι H d v → Reps K nm ι H (ds.set n d) (xs.set n v)
  | [], _, _, _, _, h, _ => by cases h; rfl
  | d :: ds, _, _, _, 0, h, r => by
    obtain ⟨v, w, rfl, h2, h3⟩ := h
    exact ⟨_, _, rfl, r, h3⟩
  | d :: ds, _, _, _, n + 1, h, r => by
    obtain ⟨v, w, rfl, h2, h3⟩ := h
    exact ⟨v, _, rfl, h2, Reps.set n h3 r⟩
theorem Rel.lst (r : Rel K nm ι S H) {n : Nat} {ds : List D} (h : S[n]? = some (.lst ds)) : ∃ a xs, ι[n]? = some a ∧ H a = some (.lst xs) ∧ Reps K nm ι H ds xs := by
  have hl : n < S.length := (List.getElem?_eq_some_iff.mp h).1
  have hi : n < ι.length := by rw [r.len]; exact hl
  obtain ⟨xs, h1, h2⟩ := r.ob n ι[n] _ (List.getElem?_eq_getElem hi) h
  exact ⟨ι[n], xs, List.getElem?_eq_getElem hi, h1, h2⟩
theorem Rel.ref (r : Rel K nm ι S H) {n : Nat} {ds : List D} {v : V} (h : S[n]? = some (.lst ds)) (hv : Rep K nm ι H (.ref n) v) : ∃ a xs, v = .ref a ∧ ι[n]? = some a ∧ H a = some (.lst xs) ∧ Reps K nm ι H ds xs := by
  obtain ⟨a, xs, h1, h2, h3⟩ := r.lst h
  obtain ⟨b, h4, h5⟩ := hv
  rw [h1] at h4
  cases h4
  exact ⟨a, xs, h5, h1, h2, h3⟩
/-- an object is laid beside the store -/
theorem Ex'.side {p : Addr} {o : HO} (hp : H p = none) (hi : p ∉ ι) : Ex' ι H ι (upd H p o) := ⟨⟨[], by simp⟩, fun b u h n => ⟨by rw [upd_ne (ne_of_none h hp)]; exact h, n⟩⟩
theorem Rel.free (r : Rel K nm ι S H) {p : Addr} (hp : H p = none) : p ∉ ι := fun h => by
  obtain ⟨i, hi, e⟩ := List.mem_iff_getElem.mp h
  have hs : i < S.length := by rw [← r.len]; exact hi
  have q := r.ob i p S[i] (by rw [List.getElem?_eq_getElem hi, e]) (List.getElem?_eq_getElem hs)
  cases hS : S[i] with
  | lst ds =>
    rw [hS] at q
    obtain ⟨xs, h1, _⟩ := q
    rw [hp] at h1
    cases h1
  | dct kvs =>
    rw [hS] at q
    exact q.elim
  | ins c fs =>
    rw [hS] at q
    exact q.elim
theorem Rel.side' (r : Rel K nm ι S H) {p : Addr} {o : HO} (hp : H p = none) : Rel K nm ι S (upd H p o) := by
  have hf := r.free hp
  have e : Ex' ι H ι (upd H p o) := Ex'.side hp hf
  refine ⟨r.len, r.nd, fun i a u h1 h2 => ?_⟩
  have q := r.ob i a u h1 h2
  cases u with
  | lst ds =>
    obtain ⟨xs, h3, h4⟩ := q
    exact ⟨xs, by rw [upd_ne (ne_of_none h3 hp)]; exact h3, Reps.mono r e h4⟩
  | dct kvs => exact q
  | ins c fs => exact q
theorem Rel.side (r : Rel K nm ι S H) {p : Addr} {o : HO} (hp : H p = none) : Rel K nm ι S (upd H p o) ∧ Ex' ι H ι (upd H p o) := ⟨r.side' hp, Ex'.side hp (r.free hp)⟩
/-- a list that stands beside the store is taken into it -/
theorem Rel.take (r : Rel K nm ι S H) {p : Addr} {xs : List V} {ds : List D} (hp : H p = some (.lst xs)) (hi : p ∉ ι) (hx : Reps K nm ι H ds xs) (H0 : Hp) (ι0 : List Addr) (e0 : Ex' ι0 H0 ι H) (hn : H0 p = none) :
    Rel K nm (ι ++ [p]) (S ++ [.lst ds]) H ∧ Ex' ι0 H0 (ι ++ [p]) H := by
  have e1 : Ex' ι0 H0 (ι ++ [p]) H := by
    obtain ⟨t, rfl⟩ := e0.pre
    refine ⟨⟨t ++ [p], by simp⟩, fun b o h n => ?_⟩
    obtain ⟨h1, n1⟩ := e0.keep b o h n
    refine ⟨h1, fun hm => ?_⟩
    rcases List.mem_append.mp hm with hm | hm
    · exact n1 hm
    · have eb : b = p := by simpa using hm
      rw [eb, hn] at h
      cases h
  have at2 : ∀ (i : Nat) (a : Addr), ι[i]? = some a → (ι ++ [p])[i]? = some a := fun i a h => by
    have hl : i < ι.length := (List.getElem?_eq_some_iff.mp h).1
    rw [List.getElem?_append_left hl]
    exact h
  refine ⟨⟨by simp [r.len], ?_, fun i a o h1 h2 => ?_⟩, e1⟩
  · rw [List.nodup_append]
    refine ⟨r.nd, by simp, fun a ha b hb => ?_⟩
    have eb : b = p := by simpa using hb
    rw [eb]
    exact fun q => hi (by rw [← q]; exact ha)
  · by_cases hl : i < ι.length
    · rw [List.getElem?_append_left hl] at h1
      have hs : i < S.length := by rw [← r.len]; exact hl
      rw [List.getElem?_append_left hs] at h2
      have q := r.ob i a o h1 h2
      cases o with
      | lst ds =>
        obtain ⟨xs, h3, h4⟩ := q
        exact ⟨xs, h3, Reps.to at2 (fun _ _ z => z) (fun _ _ z => z) h4⟩
      | dct kvs => exact q
      | ins c fs => exact q
    · have hs : ¬ i < S.length := by rw [← r.len]; exact hl
      rw [List.getElem?_append_right (by omega)] at h1
      rw [List.getElem?_append_right (by omega)] at h2
      have z1 : i - ι.length = 0 := by
        have := (List.getElem?_eq_some_iff.mp h1).1
        simp at this
        omega
      have z2 : i - S.length = 0 := by rw [← r.len]; exact z1
      rw [z1] at h1
      rw [z2] at h2
      have ea : p = a := by simpa using h1
      have eo : Ob.lst ds = o := by simpa using h2
      subst ea eo
      exact ⟨xs, hp, Reps.to at2 (fun _ _ z => z) (fun _ _ z => z) hx⟩
/-- a new list, taken into the store at once -/
theorem Rel.new (r : Rel K nm ι S H) {p : Addr} {xs : List V} {ds : List D} (hp : H p = none) (hx : Reps K nm ι H ds xs) :
    Rel K nm (ι ++ [p]) (S ++ [.lst ds]) (upd H p (.lst xs)) ∧ Ex' ι H (ι ++ [p]) (upd H p (.lst xs)) := by
  obtain ⟨r1, e1⟩ := r.side (o := .lst xs) hp
  exact r1.take upd_same (r.free hp) (Reps.mono r e1 hx) H ι e1 hp
/-- a list of the store is changed -/
theorem Rel.put (r : Rel K nm ι S H) {n : Nat} {a : Addr} {xs ys : List V} {ds es : List D} (hn : ι[n]? = some a) (hs : S[n]? = some (.lst ds)) (hx : Reps K nm ι H es ys) :
    Rel K nm ι (S.set n (.lst es)) (upd H a (.lst ys)) ∧ Ex' ι H ι (upd H a (.lst ys)) := by
  have hm : a ∈ ι := List.mem_of_getElem? hn
  have e1 : Ex' ι H ι (upd H a (.lst ys)) := ⟨⟨[], by simp⟩, fun b o h hb => ⟨by (rw [upd_ne (fun (q : b = a) => hb (by rw [q]; exact hm))]; exact h), hb⟩⟩
  refine ⟨⟨by simp [r.len], r.nd, fun i b o h1 h2 => ?_⟩, e1⟩
  by_cases hi : i = n
  · subst hi
    rw [hn] at h1
    cases h1
    have hl : i < S.length := (List.getElem?_eq_some_iff.mp hs).1
    rw [List.getElem?_set_self hl] at h2
    cases h2
    exact ⟨ys, upd_same, Reps.mono r e1 hx⟩
  · rw [List.getElem?_set_ne (Ne.symm hi)] at h2
    have q := r.ob i b o h1 h2
    have hb : b ≠ a := fun q => by
      subst q
      have h1' := List.getElem?_eq_some_iff.mp h1
      have h2' := List.getElem?_eq_some_iff.mp hn
      obtain ⟨l1, g1⟩ := h1'
      obtain ⟨l2, g2⟩ := h2'
      exact hi ((List.getElem_inj r.nd).mp (g1.trans g2.symm))
    cases o with
    | lst ds =>
      obtain ⟨xs, h3, h4⟩ := q
      exact ⟨xs, by rw [upd_ne hb]; exact h3, Reps.mono r e1 h4⟩
    | dct kvs => exact q
    | ins c fs => exact q
end
end Pl

set_option maxHeartbeats 1000000
/-! The operations on values are what the model's are. -/
namespace Pl
open PySem L2

def Wg {α : Type} (r : R α) (P : α → Sto → Prop) (XW : Xc → Sto → Prop) : Prop := match r with
  | .ok a S => P a S
  | .exc x S => XW x S
  | .bad => False
theorem Wg.bind {α β : Type} {r : R α} {f : α → Sto → R β} {P : β → Sto → Prop} {XW : Xc → Sto → Prop} (h : Wg (r.bind f) P XW) : Wg r (fun a S => Wg (f a S) P XW) XW := by
  cases r <;> exact h
theorem Wg.mono {α : Type} {r : R α} {P P' : α → Sto → Prop} {XW : Xc → Sto → Prop} (h : Wg r P XW) (k : ∀ a S, P a S → P' a S) : Wg r P' XW := by
  cases r with
  | ok a S => exact k a S h
  | exc x S => exact h
  | bad => exact h
def NoX : Xc → Sto → Prop := fun _ _ => False
section
variable (K : PySem.W.Frag) (nm : Nat → Addr)
/-- what is wanted of a value's end -/
def Wv (ι : List Addr) (H : Hp) (Q : VK) (d : D) (S' : Sto) : Prop := ∀ v ι' H', Rel K nm ι' S' H' → Ex' ι H ι' H' → Rep K nm ι' H' d v → Q v H'
/-- a two-place operation on values -/
def rOf (op : D → D → Sto → R D) : R2 := fun x y H Q => ∃ ι S d e, Rel K nm ι S H ∧ Rep K nm ι H d x ∧ Rep K nm ι H e y ∧ Wg (op d e S) (Wv K nm ι H Q) NoX
end
def strOf (x : List Nat) : Str := ⟨x.toArray⟩
theorem strOf_len (x : List Nat) : (strOf x).length = x.length := by simp [strOf, Str.length]
theorem strOf_list (x : List Nat) : (strOf x).cps.toList = x := by simp [strOf]
theorem strOf_app (x y : List Nat) : strOf x ++ strOf y = strOf (x ++ y) := by
  show Str.append (strOf x) (strOf y) = strOf (x ++ y)
  simp [strOf, Str.append]
theorem strOf_inj {x y : List Nat} : (strOf x = strOf y) ↔ x = y := by
  constructor
  · intro h
    have := congrArg (fun s : Str => s.cps.toList) h
    simpa [strOf] using this
  · rintro rfl
    rfl
theorem lim_le {n : Nat} (h : n ≤ lim) : n ≤ sizeLine := Nat.le_trans h (by decide)
section
variable {X : Cx} {nm : Nat → Addr}
theorem os_add : OpR X (binaryOp .Add) (rOf X.K nm (binV .add)) := by
  intro pins s σ H x y u v Q I rx ry h
  obtain ⟨ι, S, d, e, rel, hx, hy, w⟩ := h
  cases d <;> cases e <;> first
    | exact False.elim w
    | skip
  case int.int i j =>
    cases hx; cases hy
    exact op_add pins s σ H _ _ u v Q I rx ry ⟨i, j, rfl, rfl, w _ ι H rel .refl rfl⟩
  case str.str i j =>
    cases hx; cases hy
    simp only [binV] at w
    split at w
    · rename_i hl
      refine op_add_str pins s σ H _ _ u v Q I rx ry ⟨strOf i, strOf j, rfl, rfl, ?_, w _ ι H rel .refl ?_⟩
      · rw [strOf_len, strOf_len]
        exact lim_le hl
      · rw [strOf_app]
        rfl
    · exact w.elim
  case tup.tup i j =>
    obtain ⟨a, xs, rfl, ha, hxs⟩ := hx
    obtain ⟨b, ys, rfl, hb, hys⟩ := hy
    simp only [binV] at w
    split at w
    · rename_i hl
      refine op_catA pins s σ H _ _ u v Q I rx ry ⟨a, b, xs, ys, rfl, rfl, ha, hb, ?_, fun e => ?_, fun _ e => ?_, fun _ _ p hp => ?_⟩
      · rw [hxs.length, hys.length]
        exact lim_le hl
      · refine w _ ι H rel .refl ⟨b, ys, rfl, hb, ?_⟩
        have := hxs.length
        rw [e] at this
        have e2 : i = [] := List.eq_nil_of_length_eq_zero this.symm
        rw [e2]
        exact hys
      · refine w _ ι H rel .refl ⟨a, xs, rfl, ha, ?_⟩
        have := hys.length
        rw [e] at this
        have e2 : j = [] := List.eq_nil_of_length_eq_zero this.symm
        rw [e2, List.append_nil]
        exact hxs
      · obtain ⟨r1, e1⟩ := rel.side (o := .tup (xs ++ ys)) hp
        exact w _ ι _ r1 e1 ⟨p, _, rfl, SqT.of upd_same, (hxs.append hys).mono rel e1⟩
    · exact w.elim
  case ref.ref i j =>
    simp only [binV] at w
    split at w
    · rename_i h1 h2
      obtain ⟨a, xs, rfl, _, ha, hxs⟩ := rel.ref h1 hx
      obtain ⟨b, ys, rfl, _, hb, hys⟩ := rel.ref h2 hy
      split at w
      · rename_i hl
        refine op_cat pins s σ H _ _ u v Q I rx ry ⟨a, b, xs, ys, rfl, rfl, ha, hb, ?_, fun p hp => ?_⟩
        · rw [hxs.length, hys.length]
          exact lim_le hl
        · obtain ⟨r1, e1⟩ := rel.new hp (hxs.append hys)
          refine w _ _ _ r1 e1 ⟨p, ?_, rfl⟩
          rw [← rel.len]
          simp
      · exact w.elim
    · exact w.elim
theorem os_sub : OpR X (binaryOp .Sub) (rOf X.K nm (binV .sub)) := by
  intro pins s σ H x y u v Q I rx ry h
  obtain ⟨ι, S, d, e, rel, hx, hy, w⟩ := h
  cases d <;> cases e <;> first
    | exact False.elim w
    | skip
  case int.int i j =>
    cases hx; cases hy
    exact op_sub pins s σ H _ _ u v Q I rx ry ⟨i, j, rfl, rfl, w _ ι H rel .refl rfl⟩
theorem os_mul : OpR X (binaryOp .Mult) (rOf X.K nm (binV .mul)) := by
  intro pins s σ H x y u v Q I rx ry h
  obtain ⟨ι, S, d, e, rel, hx, hy, w⟩ := h
  cases d <;> cases e <;> first
    | exact False.elim w
    | skip
  case int.int i j =>
    cases hx; cases hy
    simp only [binV] at w
    split at w
    · rename_i hl
      exact op_mul pins s σ H _ _ u v Q I rx ry ⟨i, j, rfl, rfl, .inr (by omega), w _ ι H rel .refl rfl⟩
    · exact w.elim
theorem os_fdiv : OpR X (binaryOp .FloorDiv) (rOf X.K nm (binV .fdiv)) := by
  intro pins s σ H x y u v Q I rx ry h
  obtain ⟨ι, S, d, e, rel, hx, hy, w⟩ := h
  cases d <;> cases e <;> first
    | exact False.elim w
    | skip
  case int.int i j =>
    cases hx; cases hy
    simp only [binV] at w
    split at w
    · rename_i hl
      exact op_fdiv pins s σ H _ _ u v Q I rx ry ⟨i, j, rfl, rfl, ⟨hl.1, hl.2⟩, w _ ι H rel .refl rfl⟩
    · exact w.elim
theorem os_mod : OpR X (binaryOp .Mod) (rOf X.K nm (binV .mod)) := by
  intro pins s σ H x y u v Q I rx ry h
  obtain ⟨ι, S, d, e, rel, hx, hy, w⟩ := h
  cases d <;> cases e <;> first
    | exact False.elim w
    | skip
  case int.int i j =>
    cases hx; cases hy
    simp only [binV] at w
    split at w
    · rename_i hl
      exact op_mod pins s σ H _ _ u v Q I rx ry ⟨i, j, rfl, rfl, hl, w _ ι H rel .refl rfl⟩
    · exact w.elim
theorem os_pow : OpR X (binaryOp .Pow) (rOf X.K nm (binV .pow)) := by
  intro pins s σ H x y u v Q I rx ry h
  obtain ⟨ι, S, d, e, rel, hx, hy, w⟩ := h
  cases d <;> cases e <;> first
    | exact False.elim w
    | skip
  case int.int i j =>
    cases hx; cases hy
    simp only [binV] at w
    split at w
    · rename_i hl
      exact op_pow pins s σ H _ _ u v Q I rx ry ⟨i, j, rfl, rfl, ⟨hl.1, by omega, by omega⟩, w _ ι H rel .refl rfl⟩
    · exact w.elim
def BOp.op : BOp → Operator
  | .add => .Add | .sub => .Sub | .mul => .Mult | .fdiv => .FloorDiv | .mod => .Mod | .pow => .Pow
theorem os_bin (op : BOp) : OpR X (binaryOp op.op) (rOf X.K nm (binV op)) := by
  cases op
  · exact os_add
  · exact os_sub
  · exact os_mul
  · exact os_fdiv
  · exact os_mod
  · exact os_pow
/-! ### data -/
theorem pdR_Dp {K : PySem.W.Frag} {ι : List Addr} {S : Sto} {H : Hp} (rel : Rel K nm ι S H) (g : Nat → Option PyData) (hg : ∀ n x v, g n = some x → Rep K nm ι H (.ref n) v → Dp K H v x) :
    (∀ (d : D) (x : PyData) (v : V), pdR g d = some x → Rep K nm ι H d v → Dp K H v x) := by
  intro d
  apply D.rec (motive_1 := fun d => ∀ (x : PyData) (v : V), pdR g d = some x → Rep K nm ι H d v → Dp K H v x)
    (motive_2 := fun ds => ∀ (xs : List PyData) (vs : List V), pdRs g ds = some xs → Reps K nm ι H ds vs → DpAll K H vs xs)
  · intro x v e r; cases e; cases r; exact .non
  · intro b x v e r; cases e; cases r; exact .bl b
  · intro i x v e r; cases e; cases r; exact .int i
  · intro i x v e r; cases e; cases r; exact .str _
  · intro ds ih x v e r
    obtain ⟨a, xs, rfl, h1, h2⟩ := r
    simp only [pdR, Option.map_eq_some_iff] at e
    obtain ⟨ys, h3, rfl⟩ := e
    exact .tup h1 (ih _ _ h3 h2)
  · intro n x v e r
    exact hg n x v e r
  · intro n x v e r; cases e
  · intro ds ih x v e r
    obtain ⟨a, xs, rfl, h1, h2⟩ := r
    simp only [pdR, Option.map_eq_some_iff] at e
    obtain ⟨ys, h3, rfl⟩ := e
    exact .lst h1.l (ih _ _ h3 h2)
  · intro xs vs e r; cases e; cases r; exact .nil
  · intro d ds ih1 ih2 xs vs e r
    obtain ⟨v, w, rfl, h1, h2⟩ := r
    simp only [pdRs] at e
    split at e
    · rename_i x ys h3 h4
      cases e
      exact .cons (ih1 _ _ h3 h1) (ih2 _ _ h4 h2)
    · cases e
theorem pdRs_Dp {K : PySem.W.Frag} {ι : List Addr} {S : Sto} {H : Hp} (rel : Rel K nm ι S H) (g : Nat → Option PyData) (hg : ∀ n x v, g n = some x → Rep K nm ι H (.ref n) v → Dp K H v x) :
    ∀ (ds : List D) (xs : List PyData) (vs : List V), pdRs g ds = some xs → Reps K nm ι H ds vs → DpAll K H vs xs
  | [], xs, vs, e, r => by cases e; cases r; exact .nil
  | d :: ds, xs, vs, e, r => by
    obtain ⟨v, w, rfl, h1, h2⟩ := r
    simp only [pdRs] at e
    split at e
    · rename_i x ys h3 h4
      cases e
      exact .cons (pdR_Dp rel g hg d _ _ h3 h1) (pdRs_Dp rel g hg ds _ _ h4 h2)
    · cases e
theorem pdN_Dp {K : PySem.W.Frag} {ι : List Addr} {S : Sto} {H : Hp} (rel : Rel K nm ι S H) : ∀ (k n : Nat) (x : PyData) (v : V), pdN S k n = some x → Rep K nm ι H (.ref n) v → Dp K H v x
  | 0, n, x, v, e, r => by cases e
  | k + 1, n, x, v, e, r => by
    simp only [pdN] at e
    split at e
    · rename_i ds hs
      simp only [Option.map_eq_some_iff] at e
      obtain ⟨ys, h3, rfl⟩ := e
      obtain ⟨a, xs, rfl, _, ha, hx⟩ := rel.ref hs r
      exact .lst (SqL.of ha) (pdRs_Dp rel _ (fun n x v => pdN_Dp rel k n x v) ds _ _ h3 hx)
    · cases e
theorem pd_Dp {K : PySem.W.Frag} {ι : List Addr} {S : Sto} {H : Hp} (rel : Rel K nm ι S H) {d : D} {x : PyData} {v : V} (e : pd S d = some x) (r : Rep K nm ι H d v) : Dp K H v x :=
  pdR_Dp rel _ (fun n x v => pdN_Dp rel 4 n x v) d x v e r
theorem scal_ok {K : PySem.W.Frag} {ι : List Addr} {H : Hp} {d e : D} {x y : V} {r : Bool} (h : scalE d e = some r) (hx : Rep K nm ι H d x) (hy : Rep K nm ι H e y) : scal x y = true ∧ decide (x = y) = r := by
  cases d <;> cases e <;> simp only [scalE] at h <;> first
    | (cases h; done)
    | (cases hx; cases hy; have e := Option.some.inj h; subst e; refine ⟨rfl, ?_⟩; first | rfl | (rw [Bool.eq_iff_iff]; simp) | skip)
  all_goals (rw [Bool.eq_iff_iff]; simp)
theorem os_eq (hr : X.A.units + 64 < cLine) : OpR X (compareOp .Eq) (rOf X.K nm (cmpV .eq)) := by
  intro pins s σ H x y u v Q I rx ry h
  obtain ⟨ι, S, d, e, rel, hx, hy, w⟩ := h
  simp only [cmpV, eqV] at w
  split at w
  · rename_i r hr
    obtain ⟨h1, h2⟩ := scal_ok hr hx hy
    refine op_eq pins s σ H _ _ u v Q I rx ry ⟨h1, ?_⟩
    rw [h2]
    exact w _ ι H rel .refl (by rw [Bool.xor_false] <;> rfl)
  · split at w
    · rename_i p q h1 h2
      split at w
      · rename_i hs
        obtain ⟨s1, s2⟩ := Bool.and_eq_true_iff.mp hs
        refine op_eqD hr pins s σ H _ _ u v Q I rx ry ⟨p, q, pd_Dp rel h1 hx, pd_Dp rel h2 hy, s1, s2, ?_⟩
        exact w _ ι H rel .refl (by rw [Bool.xor_false] <;> rfl)
      · exact w.elim
    · exact w.elim
theorem os_ne (hr : X.A.units + 64 < cLine) : OpR X (compareOp .NotEq) (rOf X.K nm (cmpV .ne)) := by
  intro pins s σ H x y u v Q I rx ry h
  obtain ⟨ι, S, d, e, rel, hx, hy, w⟩ := h
  simp only [cmpV, eqV] at w
  split at w
  · rename_i r hr
    obtain ⟨h1, h2⟩ := scal_ok hr hx hy
    refine op_ne pins s σ H _ _ u v Q I rx ry ⟨h1, ?_⟩
    rw [h2]
    exact w _ ι H rel .refl (by rw [Bool.xor_true] <;> rfl)
  · split at w
    · rename_i p q h1 h2
      split at w
      · rename_i hs
        obtain ⟨s1, s2⟩ := Bool.and_eq_true_iff.mp hs
        refine op_neD hr pins s σ H _ _ u v Q I rx ry ⟨p, q, pd_Dp rel h1 hx, pd_Dp rel h2 hy, s1, s2, ?_⟩
        exact w _ ι H rel .refl (by rw [Bool.xor_true] <;> rfl)
      · exact w.elim
    · exact w.elim
theorem os_int {op : CmpOp} {o : COp} {p : Int → Int → Bool} (hp : ∀ i j, intC o i j = some (p i j)) (hc : ∀ a b S, cmpV o a b S = match a, b with
    | .int i, .int j => match intC o i j with
      | some r => .ok (.bl r) S
      | none => .bad
    | _, _ => .bad) (h : OpR X (compareOp op) (rI0 fun i j => .bl (p i j))) : OpR X (compareOp op) (rOf X.K nm (cmpV o)) := by
  intro pins s σ H x y u v Q I rx ry q
  obtain ⟨ι, S, d, e, rel, hx, hy, w⟩ := q
  rw [hc] at w
  cases d <;> cases e <;> first
    | exact False.elim w
    | skip
  case int.int i j =>
    cases hx; cases hy
    simp only [hp] at w
    exact h pins s σ H _ _ u v Q I rx ry ⟨i, j, rfl, rfl, w _ ι H rel .refl rfl⟩
theorem os_lt : OpR X (compareOp .Lt) (rOf X.K nm (cmpV .lt)) := os_int (fun _ _ => rfl) (fun _ _ _ => rfl) op_lt
theorem os_le : OpR X (compareOp .LtE) (rOf X.K nm (cmpV .le)) := os_int (fun _ _ => rfl) (fun _ _ _ => rfl) op_le
theorem os_gt : OpR X (compareOp .Gt) (rOf X.K nm (cmpV .gt)) := os_int (fun _ _ => rfl) (fun _ _ _ => rfl) op_gt
theorem os_ge : OpR X (compareOp .GtE) (rOf X.K nm (cmpV .ge)) := os_int (fun _ _ => rfl) (fun _ _ _ => rfl) op_ge
def isNon : D → Bool
  | .non => true
  | _ => false
theorem rep_non {K : PySem.W.Frag} {ι : List Addr} {H : Hp} {d : D} {x : V} (h : Rep K nm ι H d x) : decide (x = .non) = isNon d := by
  cases d
  case non => cases h; rfl
  case bl => cases h; rfl
  case int => cases h; rfl
  case str => cases h; rfl
  case tup => obtain ⟨a, xs, rfl, _⟩ := h; rfl
  case ref => obtain ⟨a, _, rfl⟩ := h; rfl
  case gl => cases h; rfl
  case fro => obtain ⟨a, xs, rfl, _⟩ := h; rfl
theorem os_isN : OpR X (compareOp .Is) (rOf X.K nm (cmpV .isN)) := by
  intro pins s σ H x y u v Q I rx ry h
  obtain ⟨ι, S, d, e, rel, hx, hy, w⟩ := h
  simp only [cmpV] at w
  cases e <;> first
    | exact False.elim w
    | skip
  case non =>
    cases hy
    refine op_isN pins s σ H _ _ u v Q I rx ry ⟨rfl, ?_⟩
    rw [rep_non hx]
    refine w _ ι H rel .refl ?_
    cases d <;> rfl
theorem os_notN : OpR X (compareOp .IsNot) (rOf X.K nm (cmpV .notN)) := by
  intro pins s σ H x y u v Q I rx ry h
  obtain ⟨ι, S, d, e, rel, hx, hy, w⟩ := h
  simp only [cmpV] at w
  cases e <;> first
    | exact False.elim w
    | skip
  case non =>
    cases hy
    refine op_notN pins s σ H _ _ u v Q I rx ry ⟨rfl, ?_⟩
    rw [rep_non hx]
    refine w _ ι H rel .refl ?_
    cases d <;> rfl
theorem flat_rep {K : PySem.W.Frag} {ι : List Addr} {H : Hp} {d : D} {x : V} (h : Rep K nm ι H d x) (f : flatD d = true) : flatV x = true := by
  cases d <;> first
    | (cases f; done)
    | (cases h; rfl)
theorem flat_reps {K : PySem.W.Frag} {ι : List Addr} {H : Hp} : ∀ {ds : List D} {xs : List V}, Reps K nm ι H ds xs → ds.all flatD = true → xs.all flatV = true
  | [], _, h, _ => by cases h; rfl
  | d :: ds, _, h, f => by
    obtain ⟨v, w, rfl, h1, h2⟩ := h
    rw [List.all_cons, Bool.and_eq_true] at f
    rw [List.all_cons, flat_rep h1 f.1, flat_reps h2 f.2]
    rfl
theorem eqF_rep {K : PySem.W.Frag} {ι : List Addr} {H : Hp} {d e : D} {x y : V} (h : Rep K nm ι H d x) (g : Rep K nm ι H e y) (f : flatD d = true) (f2 : flatD e = true) : L2.eqV x y = eqF d e := by
  cases d <;> first
    | (cases f; done)
    | skip
  all_goals (cases h; cases e <;> first | (cases f2; done) | skip)
  all_goals (cases g; first | rfl | skip)
  show (Str.mk _ == Str.mk _) = decide _
  rw [Bool.eq_iff_iff]
  simp
theorem inF_rep {K : PySem.W.Frag} {ι : List Addr} {H : Hp} {d : D} {x : V} (h : Rep K nm ι H d x) (f : flatD d = true) : ∀ {ds : List D} {xs : List V}, Reps K nm ι H ds xs → ds.all flatD = true → L2.inV x xs = ds.any fun y => eqF y d
  | [], _, g, _ => by cases g; rfl
  | e :: ds, _, g, f2 => by
    obtain ⟨v, w, rfl, h1, h2⟩ := g
    rw [List.all_cons, Bool.and_eq_true] at f2
    have q := inF_rep h f h2 f2.2
    unfold L2.inV at q ⊢
    rw [List.any_cons, List.any_cons, q, eqF_rep h1 h f2.1 f]
theorem inF_some {d : D} {ds : List D} {r : Bool} (h : inF d ds = some r) : flatD d = true ∧ ds.all flatD = true ∧ r = ds.any fun y => eqF y d := by
  unfold inF at h
  split at h
  · rename_i hc
    obtain ⟨h1, h2⟩ := Bool.and_eq_true_iff.mp hc
    exact ⟨h1, h2, (Option.some.inj h).symm⟩
  · cases h
def op_in (neg : Bool) : CmpOp := if neg then .NotIn else .In
theorem rin {neg : Bool} : OpR X (compareOp (op_in neg)) (L2.rIn X.K neg) := by
  cases neg
  · exact op_in_seq
  · exact op_notIn_seq
theorem os_in_ (neg : Bool) : OpR X (compareOp (op_in neg)) (rOf X.K nm (inV neg)) := by
  intro pins s σ H x y u v Q I rx ry h
  obtain ⟨ι, S, d, e, rel, hx, hy, w⟩ := h
  have seq : ∀ (ds : List D) (a : Addr) (xs : List V) (r : Bool), y = .ref a → inF d ds = some r → (SqL X.K H a xs ∨ SqT X.K H a xs) → Reps X.K nm ι H ds xs → Wv X.K nm ι H Q (.bl (r ^^ neg)) S →
      wpAny (model X.prog X.w) X.A (compareOp (op_in neg) u v) (EP X pins σ Q) X.xe s := by
    intro ds a xs r ey hi hs hr w
    obtain ⟨f1, f2, rfl⟩ := inF_some hi
    refine rin pins s σ H x y u v Q I rx ry ⟨a, xs, ey, hs, flat_rep hx f1, flat_reps hr f2, ?_⟩
    rw [inF_rep hx f1 hr f2]
    refine w _ ι H rel .refl ?_
    cases neg
    · rw [Bool.xor_false] <;> rfl
    · rw [Bool.xor_true] <;> rfl
  have tup : ∀ (ds : List D), e = .tup ds → inV neg d e S = (match inF d ds with | some r => .ok (.bl (r ^^ neg)) S | none => .bad) := by
    rintro ds rfl
    cases d <;> rfl
  have rf : ∀ n, e = .ref n → inV neg d e S = (match S[n]? with
    | some (.lst ys) => match inF d ys with
      | some r => .ok (.bl (r ^^ neg)) S
      | none => .bad
    | _ => .bad) := by
    rintro n rfl
    cases d <;> rfl
  cases e
  case tup ds =>
    rw [tup ds rfl] at w
    split at w
    · rename_i r hr
      obtain ⟨a, xs, rfl, h1, h2⟩ := hy
      exact seq ds a xs r rfl hr (.inr h1) h2 w
    · exact w.elim
  case ref n =>
    rw [rf n rfl] at w
    split at w
    · rename_i ds hs
      split at w
      · rename_i r hr
        obtain ⟨a, xs, rfl, _, h1, h2⟩ := rel.ref hs hy
        exact seq ds a xs r rfl hr (.inl (SqL.of h1)) h2 w
      · exact w.elim
    · exact w.elim
  case str b =>
    cases d <;> first
      | exact False.elim w
      | skip
    case str a =>
      cases hx; cases hy
      cases neg
      · refine op_in_str pins s σ H _ _ u v Q I rx ry ⟨strOf a, strOf b, rfl, rfl, ?_⟩
        refine w _ ι H rel .refl ?_
        rw [Bool.xor_false, strOf_len]
        rfl
      · refine op_notIn_str pins s σ H _ _ u v Q I rx ry ⟨strOf a, strOf b, rfl, rfl, ?_⟩
        refine w _ ι H rel .refl ?_
        rw [Bool.xor_true, strOf_len]
        rfl
  all_goals (cases d <;> exact False.elim w)
def COp.op : COp → CmpOp
  | .eq => .Eq | .ne => .NotEq | .lt => .Lt | .le => .LtE | .gt => .Gt | .ge => .GtE | .isin => .In | .notin => .NotIn | .isN => .Is | .notN => .IsNot
theorem os_cmp (hr : X.A.units + 64 < cLine) (op : COp) : OpR X (compareOp op.op) (rOf X.K nm (cmpV op)) := by
  cases op
  · exact os_eq hr
  · exact os_ne hr
  · exact os_lt
  · exact os_le
  · exact os_gt
  · exact os_ge
  · exact os_in_ false
  · exact os_in_ true
  · exact os_isN
  · exact os_notN
/-! ### subscripts, slices, truth, lengths -/
theorem Reps.atI {K : PySem.W.Frag} {ι : List Addr} {H : Hp} {ds : List D} {xs : List V} {i : Int} {d : D} (h : Reps K nm ι H ds xs) (e : L2.atI ds i = some d) : ∃ v, L2.atI xs i = some v ∧ Rep K nm ι H d v := by
  unfold L2.atI at e ⊢
  rw [h.length]
  cases q : L2.ixN ds.length i with
  | none => rw [q] at e; cases e
  | some j =>
    rw [q] at e
    exact h.get e
theorem Reps.cut {K : PySem.W.Frag} {ι : List Addr} {H : Hp} {ds : List D} {xs : List V} (h : Reps K nm ι H ds xs) (lo hi : Option Int) : Reps K nm ι H (cutL ds lo hi) (L2.cutV xs lo hi) := by
  unfold cutL L2.cutV
  rw [h.length]
  exact Reps.take _ (Reps.drop _ h)
theorem ox_idx : IxR X (rOf X.K nm idxV) := by
  intro value slice pins s σ H x y v u Q I rx ry h hs
  obtain ⟨ι, S, d, e, rel, hx, hy, w⟩ := h
  cases d <;> cases e <;> first
    | exact False.elim w
    | skip
  case tup.int ds i =>
    simp only [idxV] at w
    obtain ⟨a, xs, rfl, h1, h2⟩ := hx
    cases hy
    split at w
    · rename_i d hd
      obtain ⟨z, h3, h4⟩ := h2.atI hd
      exact ix_tup value slice pins s σ H _ _ v u Q I rx ry ⟨a, xs, i, z, rfl, rfl, h1, h3, w _ ι H rel .refl h4⟩ hs
    · exact w.elim
  case ref.int n i =>
    simp only [idxV] at w
    cases hy
    split at w
    · rename_i ds hds
      obtain ⟨a, xs, rfl, _, h1, h2⟩ := rel.ref hds hx
      split at w
      · rename_i d hd
        obtain ⟨z, h3, h4⟩ := h2.atI hd
        exact ix_list value slice pins s σ H _ _ v u Q I rx ry ⟨a, xs, i, z, rfl, rfl, SqL.of h1, h3, w _ ι H rel .refl h4⟩ hs
      · exact w.elim
    · exact w.elim
  case str.int z i =>
    simp only [idxV] at w
    cases hx; cases hy
    split at w
    · rename_i c hc
      split at hc
      · rename_i hl
        refine ix_str value slice pins s σ H _ _ v u Q I rx ry ⟨strOf z, i, c, rfl, rfl, ?_, ?_, w _ ι H rel .refl rfl⟩ hs
        · rw [strOf_len]
          exact lim_le hl
        · rw [strOf_list]
          exact hc
      · cases hc
    · exact w.elim
def sOf (K : PySem.W.Frag) (nm : Nat → Addr) : V → Option Int → Option Int → Hp → VK → Prop := fun x lo hi H Q => ∃ ι S d, Rel K nm ι S H ∧ Rep K nm ι H d x ∧ Wg (sliV d lo hi S) (Wv K nm ι H Q) NoX
theorem cutS_of (z : List Nat) (lo hi : Option Int) : cutS (strOf z) lo hi = strOf (cutL z lo hi) := by
  unfold cutS cutL
  rw [strOf_list, strOf_len]
  rfl
theorem ox_sli : SlR X (sOf X.K nm) := by
  intro pins s σ H x v vl vu lo hi sl Q I rx hs pl pu h
  obtain ⟨ι, S, d, rel, hx, w⟩ := h
  cases d <;> first
    | exact False.elim w
    | skip
  case str z =>
    simp only [sliV] at w
    cases hx
    split at w
    · rename_i hl
      refine sl_str pins s σ H _ v vl vu lo hi sl Q I rx hs pl pu ⟨strOf z, rfl, by rw [strOf_len]; exact lim_le hl, ?_⟩
      rw [cutS_of]
      exact w _ ι H rel .refl rfl
    · exact w.elim
  case tup ds =>
    obtain ⟨a, xs, rfl, h1, h2⟩ := hx
    refine sl_tupA pins s σ H _ v vl vu lo hi sl Q I rx hs pl pu ⟨a, xs, rfl, h1, fun hw => ?_, fun _ p hp => ?_⟩
    · refine w _ ι H rel .refl ⟨a, xs, rfl, h1, ?_⟩
      have e : cutL ds lo hi = ds := by
        unfold cutL
        rw [← h2.length, hw.1, hw.2]
        simp [h2.length]
      rw [e]
      exact h2
    · obtain ⟨r1, e1⟩ := rel.side (o := .tup (L2.cutV xs lo hi)) hp
      exact w _ ι _ r1 e1 ⟨p, _, rfl, SqT.of upd_same, (h2.cut lo hi).mono rel e1⟩
  case ref n =>
    simp only [sliV] at w
    split at w
    · rename_i ds hds
      obtain ⟨a, xs, rfl, _, h1, h2⟩ := rel.ref hds hx
      refine sl_list pins s σ H _ v vl vu lo hi sl Q I rx hs pl pu ⟨a, xs, rfl, SqL.of h1, fun p hp => ?_⟩
      obtain ⟨r1, e1⟩ := rel.new hp (h2.cut lo hi)
      exact w _ _ _ r1 e1 ⟨p, by rw [← rel.len]; simp, rfl⟩
    · exact w.elim
  case fro ds =>
    obtain ⟨a, xs, rfl, h1, h2⟩ := hx
    refine sl_list pins s σ H _ v vl vu lo hi sl Q I rx hs pl pu ⟨a, xs, rfl, h1.l, fun p hp => ?_⟩
    obtain ⟨r1, e1⟩ := rel.new hp (h2.cut lo hi)
    exact w _ _ _ r1 e1 ⟨p, by rw [← rel.len]; simp, rfl⟩
theorem emp_reps {K : PySem.W.Frag} {ι : List Addr} {H : Hp} {ds : List D} {xs : List V} (h : Reps K nm ι H ds xs) : (!ds.isEmpty) = !xs.isEmpty := by
  cases ds
  · cases h; rfl
  · obtain ⟨v, w, rfl, _, _⟩ := h; rfl
theorem tru_rep {K : PySem.W.Frag} {ι : List Addr} {S : Sto} {H : Hp} {d : D} {x : V} {P : Bool → Sto → Prop} (rel : Rel K nm ι S H) (h : Rep K nm ι H d x) (w : Wg (truV d S) P NoX) : ∃ k, TruV K x H k ∧ P k S := by
  cases d
  case non => cases h; exact ⟨false, rfl, w⟩
  case bl b => cases h; exact ⟨b, rfl, w⟩
  case int i => cases h; exact ⟨_, rfl, w⟩
  case str z =>
    cases h
    simp only [truV] at w
    split at w
    · rename_i hl
      refine ⟨_, ⟨?_, ?_⟩, w⟩
      · show (strOf z).length ≤ sizeLine
        rw [strOf_len]
        exact lim_le hl
      · show _ = (((strOf z).length : Int) != 0)
        rw [strOf_len, Bool.eq_iff_iff]
        simp
    · exact w.elim
  case tup ds =>
    obtain ⟨a, xs, rfl, h1, h2⟩ := h
    exact ⟨_, .inr (.inl ⟨xs, h1, emp_reps h2⟩), w⟩
  case ref n =>
    simp only [truV] at w
    split at w
    · rename_i ds hds
      obtain ⟨a, xs, rfl, _, h1, h2⟩ := rel.ref hds h
      exact ⟨_, .inl ⟨xs, SqL.of h1, emp_reps h2⟩, w⟩
    · exact w.elim
  case gl => exact w.elim
  case fro ds =>
    obtain ⟨a, xs, rfl, h1, h2⟩ := h
    exact ⟨_, .inl ⟨xs, h1.l, emp_reps h2⟩, w⟩
theorem len_rep {K : PySem.W.Frag} {ι : List Addr} {S : Sto} {H : Hp} {d : D} {x : V} {P : D → Sto → Prop} (rel : Rel K nm ι S H) (h : Rep K nm ι H d x) (w : Wg (lenV d S) P NoX) : ∃ n : Nat, LenV K x H n ∧ P (.int n) S := by
  cases d <;> first
    | exact False.elim w
    | skip
  case str z =>
    cases h
    simp only [lenV] at w
    split at w
    · rename_i hl
      refine ⟨_, ⟨?_, ?_⟩, w⟩
      · show (strOf z).length ≤ sizeLine
        rw [strOf_len]
        exact lim_le hl
      · exact (strOf_len z).symm
    · exact w.elim
  case tup ds =>
    obtain ⟨a, xs, rfl, h1, h2⟩ := h
    exact ⟨_, .inr ⟨xs, h1, h2.length.symm⟩, w⟩
  case ref n =>
    simp only [lenV] at w
    split at w
    · rename_i ds hds
      obtain ⟨a, xs, rfl, _, h1, h2⟩ := rel.ref hds h
      exact ⟨_, .inl ⟨xs, SqL.of h1, h2.length.symm⟩, w⟩
    · exact w.elim
  case fro ds =>
    obtain ⟨a, xs, rfl, h1, h2⟩ := h
    exact ⟨_, .inl ⟨xs, h1.l, h2.length.symm⟩, w⟩
end
end Pl

set_option maxHeartbeats 2000000
/-! What an expression of the text has to look like to be one of Pl's (ck..), and that it does then what Pl says. -/
namespace Pl
open PySem L2

structure Fx where
  ι0 : List Addr
  H0 : Hp
  XW : Xc → Sto → Prop
/-- no exception may leave -/
def Fx.nox (fx : Fx) : Fx := ⟨fx.ι0, fx.H0, NoX⟩
section
variable (K : PySem.W.Frag) (nm : Nat → Addr) (nms : Nat → Str)
structure Sta (fx : Fx) (ι : List Addr) (S : Sto) (ρ : Slo) (σ : L2.St) (H : Hp) : Prop where
  rel : Rel K nm ι S H
  ext : Ex' fx.ι0 fx.H0 ι H
  len : ρ.length = σ.length
  slo : ∀ (i : Nat) (d : D), ρ[i]? = some (some d) → ∃ v, σ[i]? = some (some v) ∧ Rep K nm ι H d v
def FsR (ι : List Addr) (H : Hp) : List (Nat × D) → List (Str × V) → Prop
  | [], gs => gs = []
  | (f, d) :: fs, gs => ∃ v r, gs = (nms f, v) :: r ∧ Rep K nm ι H d v ∧ FsR ι H fs r
/-- an exception as it flies -/
def ExcR (ι : List Addr) (H : Hp) (x : Xc) (cls : Value) (d : Option Addr) : Prop := cls = .ref (nm x.c) ∧ ∃ dd gs, d = some dd ∧ H dd = some (.xd gs) ∧ FsR K nm nms ι H x.fs gs
def Ew (fx : Fx) : XK := fun cls d H' => ∃ x S' ι', fx.XW x S' ∧ Rel K nm ι' S' H' ∧ Ex' fx.ι0 fx.H0 ι' H' ∧ ExcR K nm nms ι' H' x cls d
/-- a def's promise: what Pl's g does -/
def spF (g : List D → Sto → R D) : Sp := fun vs H Q E => ∃ ι S ds, Rel K nm ι S H ∧ Reps K nm ι H ds vs ∧
  Wg (g ds S) (Wv K nm ι H Q) fun x S' => ∀ cls d ι' H', Rel K nm ι' S' H' → Ex' ι H ι' H' → ExcR K nm nms ι' H' x cls d → E cls d H'
def tE (fx : Fx) (m : Slo → Sto → R D) : TE := fun σ H Q => ∃ ι S ρ, Sta K nm fx ι S ρ σ H ∧ Wg (m ρ S) (Wv K nm ι H Q) fx.XW
def tA (fx : Fx) (m : Slo → Sto → R (List D)) : TA := fun σ H Q => ∃ ι S ρ, Sta K nm fx ι S ρ σ H ∧ Wg (m ρ S) (fun ds S' => ∀ vs ι' H', Rel K nm ι' S' H' → Ex' ι H ι' H' → Reps K nm ι' H' ds vs → Q vs H') fx.XW
def tT (fx : Fx) (m : Slo → Sto → R Bool) : TT := fun σ H Q => ∃ ι S ρ, Sta K nm fx ι S ρ σ H ∧ Wg (m ρ S) (fun b S' => ∀ ι' H', Rel K nm ι' S' H' → Ex' ι H ι' H' → Q b H') fx.XW
def tO (fx : Fx) (m : Slo → Sto → R (Option Int)) : TO := fun σ H Q => ∃ ι S ρ, Sta K nm fx ι S ρ σ H ∧ Wg (m ρ S) (fun o S' => ∀ ι' H', Rel K nm ι' S' H' → Ex' ι H ι' H' → Q o H') fx.XW
/-- a new list -/
def tF (fx : Fx) (m : Slo → Sto → R (List D)) : TE := fun σ H Q => ∃ ι S ρ, Sta K nm fx ι S ρ σ H ∧ Wg (m ρ S) (fun ds S' => ∀ p xs ι' H', Rel K nm ι' S' H' → Ex' ι H ι' H' → H p = none → H' p = some (.lst xs) → p ∉ ι' → Reps K nm ι' H' ds xs → Q (.ref p) H') fx.XW
/-- what is true from (ι1, S1, H1) on while the places g stand -/
def Stb (ι1 : List Addr) (S1 : Sto) (H1 : Hp) (g : List Nat) (ι : List Addr) (S : Sto) (H : Hp) : Prop := Rel K nm ι S H ∧ Ex' ι1 H1 ι H ∧ ∀ i ∈ g, S[i]? = S1[i]?
def SeqAt (ι1 : List Addr) (S1 : Sto) (H1 : Hp) (sv : Sv) (a : Addr) : Prop := ∀ ι S H, Stb K nm ι1 S1 H1 sv.g ι S H → ∃ xs, (match sv.tup with | true => SqT K H a xs | false => SqL K H a xs) ∧ Reps K nm ι H sv.ds xs
def tQ (fx : Fx) (m : Slo → Sto → R Sv) : TE := fun σ H Q => ∃ ι S ρ, Sta K nm fx ι S ρ σ H ∧ Wg (m ρ S) (fun sv S' => ∀ a ι' H', Rel K nm ι' S' H' → Ex' ι H ι' H' → SeqAt K nm ι' S' H' sv a → Q (.ref a) H') fx.XW
structure Wk (J : L2.It) (sv : Sv) (ι1 : List Addr) (S1 : Sto) (H1 : Hp) : Prop where
  goes : ∀ i ι S H, Stb K nm ι1 S1 H1 sv.g ι S H → i < sv.ds.length → J.go i H
  stops : ∀ ι S H, Stb K nm ι1 S1 H1 sv.g ι S H → J.stop sv.ds.length H
  yields : ∀ i ι S H x H', Stb K nm ι1 S1 H1 sv.g ι S H → i < sv.ds.length → J.yld i H x H' → ∃ d, sv.ds[i]? = some d ∧ Rel K nm ι S H' ∧ Ex' ι H ι H' ∧ Rep K nm ι H' d x
def tI (fx : Fx) (m : Slo → Sto → R Sv) : TI := fun σ H R => ∃ ι S ρ, Sta K nm fx ι S ρ σ H ∧ Wg (m ρ S) (fun sv S' => ∀ J ι' H', Rel K nm ι' S' H' → Ex' ι H ι' H' → Wk K nm J sv ι' S' H' → R J H') fx.XW
end
section
variable {K : PySem.W.Frag} {nm : Nat → Addr} {nms : Nat → Str} {fx : Fx} {ι ι' : List Addr} {S S' : Sto} {ρ : Slo} {σ : L2.St} {H H' : Hp}
theorem Sta.on (st : Sta K nm fx ι S ρ σ H) (r : Rel K nm ι' S' H') (e : Ex' ι H ι' H') : Sta K nm fx ι' S' ρ σ H' :=
  ⟨r, st.ext.trans e, st.len, fun i d h => by
    obtain ⟨v, h1, h2⟩ := st.slo i d h
    exact ⟨v, h1, h2.mono st.rel e⟩⟩
theorem Wv.on {Q : VK} {d : D} {S2 : Sto} (e : Ex' ι H ι' H') (w : Wv K nm ι H Q d S2) : Wv K nm ι' H' Q d S2 := fun v ι2 H2 r e2 p => w v ι2 H2 r (e.trans e2) p
theorem Stb.refl (r : Rel K nm ι S H) {g : List Nat} : Stb K nm ι S H g ι S H := ⟨r, .refl, fun _ _ => rfl⟩
theorem Wg.nox {α : Type} {r : R α} {P : α → Sto → Prop} {XW : Xc → Sto → Prop} (h : Wg r P NoX) : Wg r P XW := by
  cases r with
  | ok a S => exact h
  | exc x S => exact h.elim
  | bad => exact h
theorem Wg.ofNox {α : Type} {r : R α} {P : α → Sto → Prop} {XW : Xc → Sto → Prop} (h : Wg r.nox P XW) : Wg r P NoX := by
  cases r with
  | ok a S => exact h
  | exc x S => exact h.elim
  | bad => exact h
theorem Wg.noxI {α : Type} {r : R α} {P : α → Sto → Prop} {XW : Xc → Sto → Prop} (h : Wg r P NoX) : Wg r.nox P XW := by
  cases r with
  | ok a S => exact h
  | exc x S => exact h.elim
  | bad => exact h
end
theorem PEimp {X : Cx} {e : Expr} {t t' : TE} (h : PE X e t) (i : ∀ σ H Q, t' σ H Q → t σ H Q) : PE X e t' := ⟨fun pins s σ H Q I q => h.run pins s σ H Q I (i _ _ _ q)⟩
theorem PTimp {X : Cx} {e : Expr} {t t' : TT} (h : PT X e t) (i : ∀ σ H Q, t' σ H Q → t σ H Q) : PT X e t' := ⟨fun pins s σ H Q I q => h.run pins s σ H Q I (i _ _ _ q)⟩
theorem PAimp {X : Cx} {e : List Expr} {t t' : TA} (h : PA X e t) (i : ∀ σ H Q, t' σ H Q → t σ H Q) : PA X e t' := ⟨fun pos pins s σ H Q I q => h.run pos pins s σ H Q I (i _ _ _ q)⟩
theorem POimp {X : Cx} {e : Option Expr} {t t' : TO} (h : PO X e t) (i : ∀ σ H Q, t' σ H Q → t σ H Q) : PO X e t' := ⟨fun pins s σ H Q I q => h.run pins s σ H Q I (i _ _ _ q)⟩
theorem PIimp {X : Cx} {tg e : Expr} {t t' : TI} (h : PI X tg e t) (i : ∀ σ H Q, t' σ H Q → t σ H Q) : PI X tg e t' := ⟨fun pins s σ H Q I q => h.run pins s σ H Q I (i _ _ _ q)⟩

/-- the built-in names that Pl speaks of -/
def blts : List Str := ["len", "all", "any", "range", "zip", "enumerate", "tuple", "list", "isinstance", "int", "bool", "str"]
/-- the text's defs that may be called: by places; by names too (the count of values by place, the names, the order) -/
structure Fl where
  on : Nat → Bool
  kw : Nat → Nat → List Str → List Nat → Bool
structure Gd (X : Cx) (nm : Nat → Addr) (nms : Nat → Str) (C : Nat → List D → Sto → R D) (G : Nat → Option D) (fl : Fl) (fx : Fx) : Prop where
  calm : X.calm = true
  nd : X.N.Nodup
  un : X.A.units + 70 < cLine
  glo : ∀ n d, G n = some d → ∃ u v, X.mg (nms n) = some u ∧ RelV v u ∧ ∀ ι H, Rep X.K nm ι H d v
  fns : ∀ f, fl.on f = true → ∃ a fd ps k, X.mg (nms f) = some (.ref a) ∧ PySem.W.keepIn X.K (.ref a) = true ∧ FnOk X.prog X.w X.K X.mg X.base (L2.CX X.prog X.w) k a fd ps (spF X.K nm nms (C f)) ∧ Room k X.A ∧ Binds X.K fd ps [] ∧ ∀ n ks perm, fl.kw f n ks perm = true → KBn X.K fd ps n ks (fun us ws => permL perm (us ++ ws)) (fun us ws => permL perm (us ++ ws))
  blt : ∀ x ∈ blts, X.mg x = none
  pass : Passes (L2.CX X.prog X.w) X (Ew X.K nm nms fx)
section
variable {X : Cx} {nm : Nat → Addr} {nms : Nat → Str} {C : Nat → List D → Sto → R D} {G : Nat → Option D} {fl : Fl} {fx : Fx}
theorem Gd.mono {fx' : Fx} (g : Gd X nm nms C G fl fx) (h : ∀ cls d H, Ew X.K nm nms fx' cls d H → Ew X.K nm nms fx cls d H) : Gd X nm nms C G fl fx' :=
  ⟨g.calm, g.nd, g.un, g.glo, g.fns, g.blt, fun pins σ H s e s' I c => g.pass pins σ H s e s' I (by
    obtain ⟨a, B, H', cls, d, h1, h2, h3, h4, h5, h6, h7, h8⟩ := c
    exact ⟨a, B, H', cls, d, h1, h2, h3, h4, h5, h6, h7, h _ _ _ h8⟩)⟩
/-- in a comprehension's block -/
theorem Gd.blk (g : Gd X nm nms C G fl fx) (s : Shared) (H : Hp) (scope : Scope) (cenv : Env) (fp : List Addr) : Gd (X.blk s H scope cenv fp) nm nms C G fl fx.nox :=
  ⟨g.calm, g.nd, g.un, g.glo, g.fns, g.blt, fun pins σ H s e s' I c => by
    obtain ⟨a, B, H', cls, d, h1, h2, h3, h4, h5, h6, h7, h8⟩ := c
    obtain ⟨x, S', ι', z, _⟩ := h8
    exact z.elim⟩

/-! ### the leaves -/
theorem se_var {i : Nat} {x : Str} {pos : Pos} (hN : X.N[i]? = some x) (hv : Vis X.env.scope x) (hd : (x == ("__debug__" : Str)) = false) (hc : (x == ("__classdict__" : Str)) = false) : PE X (.Name x pos) (tE X.K nm fx (ev C G (.var i))) := by
  refine PEimp (pe_var hN hv hd hc) fun σ H Q h => ?_
  obtain ⟨ι, S, ρ, st, w⟩ := h
  simp only [ev] at w
  split at w
  · rename_i d hd
    obtain ⟨v, h1, h2⟩ := st.slo i d hd
    exact ⟨v, h1, w v ι H st.rel .refl h2⟩
  · exact w.elim
theorem se_glo (g : Gd X nm nms C G fl fx) {n : Nat} {pos : Pos} (hg : Gl X (nms n)) (hd : ((nms n) == ("__debug__" : Str)) = false) : PE X (.Name (nms n) pos) (tE X.K nm fx (ev C G (.glo n))) := by
  cases e : G n with
  | none =>
    refine ⟨fun pins s σ H Q I h => ?_⟩
    obtain ⟨ι, S, ρ, st, w⟩ := h
    simp only [ev, e] at w
    exact w.elim
  | some d =>
    obtain ⟨u, v, hm, hr, hrep⟩ := g.glo n d e
    refine PEimp (pe_glob hg hm hr hd) fun σ H Q h => ?_
    obtain ⟨ι, S, ρ, st, w⟩ := h
    simp only [ev, e] at w
    exact w v ι H st.rel .refl (hrep ι H)
theorem se_cst {d : D} {e : Expr} {v : V} (h : PE X e (tC v)) (hr : ∀ ι H, Rep X.K nm ι H d v) : PE X e (tE X.K nm fx (ev C G (.cst d))) := by
  refine PEimp h fun σ H Q h => ?_
  obtain ⟨ι, S, ρ, st, w⟩ := h
  exact w v ι H st.rel .refl (hr ι H)
/-! ### arguments -/
theorem sa_nil : PA X [] (tA X.K nm fx (evs C G [])) := by
  refine PAimp pa_nil fun σ H Q h => ?_
  obtain ⟨ι, S, ρ, st, w⟩ := h
  exact w [] ι H st.rel .refl rfl
theorem sa_cons {e : Expr} {es : List Expr} {m : Ex} {ms : List Ex} (h : PE X e (tE X.K nm fx (ev C G m))) (hs : PA X es (tA X.K nm fx (evs C G ms))) (he : starEach (e :: es) X.env = (false, eval e X.env) :: starEach es X.env) : PA X (e :: es) (tA X.K nm fx (evs C G (m :: ms))) := by
  refine PAimp (pa_cons h hs he) fun σ H Q h => ?_
  obtain ⟨ι, S, ρ, st, w⟩ := h
  simp only [evs] at w
  refine ⟨ι, S, ρ, st, w.bind.mono fun d S1 w1 v ι1 H1 r1 e1 p1 => ?_⟩
  refine ⟨ι1, S1, ρ, st.on r1 e1, w1.bind.mono fun ds S2 w2 vs ι2 H2 r2 e2 p2 => ?_⟩
  exact w2 (v :: vs) ι2 H2 r2 (e1.trans e2) ⟨v, vs, rfl, p1.mono r1 e2, p2⟩
theorem se_tup {es : List Expr} {ms : List Ex} {k : Nat} {pos : Pos} (h : PA X es (tA X.K nm fx (evs C G ms))) : PE X (.Tuple es k pos) (tE X.K nm fx (ev C G (.tup ms))) := by
  refine PEimp (pe_tup h) fun σ H Q h => ?_
  obtain ⟨ι, S, ρ, st, w⟩ := h
  simp only [ev] at w
  refine ⟨ι, S, ρ, st, w.bind.mono fun ds S1 w1 vs ι1 H1 r1 e1 p1 => ?_⟩
  split at w1
  · rename_i hl
    refine ⟨by rw [p1.length]; exact lim_le hl, fun p hp => ?_⟩
    obtain ⟨r2, e2⟩ := r1.side (o := .tup vs) hp
    exact w1 _ ι1 _ r2 (e1.trans e2) ⟨p, vs, rfl, SqT.of upd_same, p1.mono r1 e2⟩
  · exact w1.elim
theorem sf_lst {es : List Expr} {ms : List Ex} {pos : Pos} (h : PA X es (tA X.K nm fx (evs C G ms))) : PE X (.List es pos) (tF X.K nm fx (evF C G (.lst ms))) := by
  refine PEimp (pe_lst h) fun σ H Q h => ?_
  obtain ⟨ι, S, ρ, st, w⟩ := h
  simp only [evF] at w
  refine ⟨ι, S, ρ, st, w.bind.mono fun ds S1 w1 vs ι1 H1 r1 e1 p1 => ?_⟩
  split at w1
  · rename_i hl
    refine ⟨by rw [p1.length]; exact lim_le hl, fun p hp => ?_⟩
    obtain ⟨r2, e2⟩ := r1.side (o := .lst vs) hp
    refine w1 p vs ι1 _ r2 (e1.trans e2) ?_ upd_same (r1.free hp) (p1.mono r1 e2)
    cases q : H p with
    | none => rfl
    | some o =>
      have hi : p ∉ ι := fun hm => by
        obtain ⟨t, rfl⟩ := e1.pre
        exact r1.free hp (List.mem_append_left _ hm)
      have := (e1.keep p o q hi).1
      rw [hp] at this
      cases this
  · exact w1.elim
/-! ### operators -/
theorem se_bin2 {e : Expr} {m1 m2 : Slo → Sto → R D} {op : D → D → Sto → R D} {m : Slo → Sto → R D} (he : PE X e (tOp (rOf X.K nm op) (tE X.K nm fx m1) (tE X.K nm fx m2)))
    (hm : ∀ ρ S, m ρ S = (m1 ρ S).bind fun x S1 => (m2 ρ S1).bind fun y S2 => op x y S2) (hop : ∀ a b S x S', op a b S ≠ .exc x S') : PE X e (tE X.K nm fx m) := by
  refine PEimp he fun σ H Q h => ?_
  obtain ⟨ι, S, ρ, st, w⟩ := h
  rw [hm] at w
  refine ⟨ι, S, ρ, st, w.bind.mono fun d S1 w1 v ι1 H1 r1 e1 p1 => ?_⟩
  refine ⟨ι1, S1, ρ, st.on r1 e1, w1.bind.mono fun d2 S2 w2 v2 ι2 H2 r2 e2 p2 => ?_⟩
  refine ⟨ι2, S2, d, d2, r2, p1.mono r1 e2, p2, ?_⟩
  cases q : op d d2 S2 with
  | ok a S3 =>
    rw [q] at w2
    exact Wv.on (e1.trans e2) w2
  | exc x S3 => exact absurd q (hop _ _ _ _ _)
  | bad => rw [q] at w2; exact w2
theorem binV_nox (op : BOp) (a b : D) (S : Sto) (x : Xc) (S' : Sto) : binV op a b S ≠ .exc x S' := by
  unfold binV
  split <;> (repeat' split) <;> exact fun q => by cases q
theorem eqV_nox (neg : Bool) (a b : D) (S : Sto) (x : Xc) (S' : Sto) : eqV neg a b S ≠ .exc x S' := by
  unfold eqV
  split <;> (repeat' split) <;> exact fun q => by cases q
theorem inV_nox (neg : Bool) (a b : D) (S : Sto) (x : Xc) (S' : Sto) : inV neg a b S ≠ .exc x S' := by
  unfold inV
  split <;> (repeat' split) <;> exact fun q => by cases q
theorem cmpV_nox (op : COp) (a b : D) (S : Sto) (x : Xc) (S' : Sto) : cmpV op a b S ≠ .exc x S' := by
  unfold cmpV
  split <;> first
    | exact eqV_nox _ _ _ _ _ _
    | exact inV_nox _ _ _ _ _ _
    | ((repeat' split) <;> exact fun q => by cases q)
theorem idxV_nox (a b : D) (S : Sto) (x : Xc) (S' : Sto) : idxV a b S ≠ .exc x S' := by
  unfold idxV
  split <;> (repeat' split) <;> exact fun q => by cases q
theorem sliV_nox (a : D) (lo hi : Option Int) (S : Sto) (x : Xc) (S' : Sto) : sliV a lo hi S ≠ .exc x S' := by
  unfold sliV
  split <;> (repeat' split) <;> exact fun q => by cases q
theorem Wg.nox' {α : Type} {r : R α} {P : α → Sto → Prop} {XW : Xc → Sto → Prop} (h : Wg r P XW) (n : ∀ x S, r ≠ .exc x S) : Wg r P NoX := by
  cases r with
  | ok a S => exact h
  | exc x S => exact absurd rfl (n x S)
  | bad => exact h
theorem se_bin (g : Gd X nm nms C G fl fx) {a b : Expr} {ma mb : Ex} {op : BOp} {pos : Pos} (ha : PE X a (tE X.K nm fx (ev C G ma))) (hb : PE X b (tE X.K nm fx (ev C G mb))) : PE X (.BinOp a op.op b pos) (tE X.K nm fx (ev C G (.bin op ma mb))) :=
  se_bin2 (pe_op (os_bin op) ha hb) (fun _ _ => rfl) (binV_nox op)
theorem se_cmp (g : Gd X nm nms C G fl fx) {a b : Expr} {ma mb : Ex} {op : COp} {pos : Pos} (ha : PE X a (tE X.K nm fx (ev C G ma))) (hb : PE X b (tE X.K nm fx (ev C G mb))) (hm : behindInMarks op.op b = false) : PE X (.Compare a [op.op] [b] pos) (tE X.K nm fx (ev C G (.cmp op ma mb))) :=
  se_bin2 (pe_cmpR (os_cmp (by have := g.un; omega) op) ha hb hm) (fun _ _ => rfl) (cmpV_nox op)
theorem se_idx (g : Gd X nm nms C G fl fx) {a b : Expr} {ma mb : Ex} {pos : Pos} (ha : PE X a (tE X.K nm fx (ev C G ma))) (hb : PE X b (tE X.K nm fx (ev C G mb))) (hs : PlainIx b) : PE X (.Subscript a b pos) (tE X.K nm fx (ev C G (.idx ma mb))) :=
  se_bin2 (pe_ix ox_idx ha hb hs) (fun _ _ => rfl) idxV_nox
theorem se_neg {a : Expr} {ma : Ex} {pos : Pos} (ha : PE X a (tE X.K nm fx (ev C G ma))) : PE X (.UnaryOp .USub a pos) (tE X.K nm fx (ev C G (.neg ma))) := by
  refine PEimp (pe_un un_neg ha) fun σ H Q h => ?_
  obtain ⟨ι, S, ρ, st, w⟩ := h
  simp only [ev] at w
  refine ⟨ι, S, ρ, st, w.bind.mono fun d S1 w1 v ι1 H1 r1 e1 p1 => ?_⟩
  cases d <;> first
    | exact False.elim w1
    | skip
  case int i =>
    cases p1
    exact ⟨i, rfl, w1 _ ι1 H1 r1 e1 rfl⟩
theorem se_not {a : Expr} {ma : Ex} {pos : Pos} (ha : PE X a (tE X.K nm fx (ev C G ma))) : PE X (.UnaryOp .Not a pos) (tE X.K nm fx (ev C G (.not_ ma))) := by
  refine PEimp (pe_not ha) fun σ H Q h => ?_
  obtain ⟨ι, S, ρ, st, w⟩ := h
  simp only [ev] at w
  refine ⟨ι, S, ρ, st, w.bind.mono fun d S1 w1 v ι1 H1 r1 e1 p1 => ?_⟩
  cases d <;> first
    | exact False.elim w1
    | skip
  case bl c =>
    cases p1
    exact ⟨c, rfl, w1 _ ι1 H1 r1 e1 rfl⟩
theorem se_and {a b : Expr} {rest : List Expr} {ma mb : Ex} {pos : Pos} (ha : PE X a (tE X.K nm fx (ev C G ma))) (hb : PE X (.BoolOp .And (b :: rest) pos) (tE X.K nm fx (ev C G mb))) : PE X (.BoolOp .And (a :: b :: rest) pos) (tE X.K nm fx (ev C G (.and_ ma mb))) := by
  refine PEimp (pe_and ha hb) fun σ H Q h => ?_
  obtain ⟨ι, S, ρ, st, w⟩ := h
  simp only [ev] at w
  refine ⟨ι, S, ρ, st, w.bind.mono fun d S1 w1 v ι1 H1 r1 e1 p1 => ?_⟩
  cases d <;> first
    | exact False.elim w1
    | skip
  case bl c =>
    cases p1
    refine ⟨c, rfl, ?_⟩
    cases c with
    | true => exact ⟨ι1, S1, ρ, st.on r1 e1, Wg.mono w1 fun d S2 w2 => w2.on e1⟩
    | false => exact w1 _ ι1 H1 r1 e1 rfl
theorem se_or {a b : Expr} {rest : List Expr} {ma mb : Ex} {pos : Pos} (ha : PE X a (tE X.K nm fx (ev C G ma))) (hb : PE X (.BoolOp .Or (b :: rest) pos) (tE X.K nm fx (ev C G mb))) : PE X (.BoolOp .Or (a :: b :: rest) pos) (tE X.K nm fx (ev C G (.or_ ma mb))) := by
  refine PEimp (pe_or ha hb) fun σ H Q h => ?_
  obtain ⟨ι, S, ρ, st, w⟩ := h
  simp only [ev] at w
  refine ⟨ι, S, ρ, st, w.bind.mono fun d S1 w1 v ι1 H1 r1 e1 p1 => ?_⟩
  cases d <;> first
    | exact False.elim w1
    | skip
  case bl c =>
    cases p1
    refine ⟨c, rfl, ?_⟩
    cases c with
    | false => exact ⟨ι1, S1, ρ, st.on r1 e1, Wg.mono w1 fun d S2 w2 => w2.on e1⟩
    | true => exact w1 _ ι1 H1 r1 e1 rfl
theorem rof_go {op : COp} {ι1 ι2 : List Addr} {S1 S2 : Sto} {H1 H2 : Hp} {d d2 : D} {v v2 : V} {Q : VK} {XW : Xc → Sto → Prop} (r1 : Rel X.K nm ι1 S1 H1) (r2 : Rel X.K nm ι2 S2 H2) (e2 : Ex' ι1 H1 ι2 H2) (p1 : Rep X.K nm ι1 H1 d v) (p2 : Rep X.K nm ι2 H2 d2 v2)
    (w : Wg (cmpV op d d2 S2) (Wv X.K nm ι2 H2 Q) XW) : rOf X.K nm (cmpV op) v v2 H2 Q := ⟨ι2, S2, d, d2, r2, p1.mono r1 e2, p2, w.nox' (cmpV_nox op d d2 S2)⟩
theorem se_chn (g : Gd X nm nms C G fl fx) {a b c : Expr} {ma mb mc : Ex} {o1 o2 : COp} {pos : Pos} (ha : PE X a (tE X.K nm fx (ev C G ma))) (hb : PE X b (tE X.K nm fx (ev C G mb))) (hc : PE X c (tE X.K nm fx (ev C G mc)))
    (hm : lastMarks [o1.op, o2.op] [b, c] = false) : PE X (.Compare a [o1.op, o2.op] [b, c] pos) (tE X.K nm fx (ev C G (.chn o1 o2 ma mb mc))) := by
  have hu : X.A.units + 64 < cLine := by have := g.un; omega
  refine PEimp (pe_chain (os_cmp (nm := nm) hu o1) (os_cmp (nm := nm) hu o2) ha hb hc hm) fun σ H Q h => ?_
  obtain ⟨ι, S, ρ, st, w⟩ := h
  simp only [ev] at w
  refine ⟨ι, S, ρ, st, w.bind.mono fun d S1 w1 v ι1 H1 r1 e1 p1 => ?_⟩
  refine ⟨ι1, S1, ρ, st.on r1 e1, w1.bind.mono fun d2 S2 w2 v2 ι2 H2 r2 e2 p2 => ?_⟩
  refine rof_go r1 r2 e2 p1 p2 (w2.bind.mono fun z S3 w3 z' ι3 H3 r3 e3 p3 => ?_)
  cases z <;> first
    | exact False.elim w3
    | skip
  case bl k =>
    cases p3
    refine ⟨k, rfl, ?_⟩
    cases k with
    | true =>
      refine ⟨ι3, S3, ρ, (st.on r1 e1).on r3 (e2.trans e3), Wg.mono w3.bind fun d4 S4 w4 v4 ι4 H4 r4 e4 p4 => ?_⟩
      exact rof_go r3 r4 e4 (p2.mono r2 e3) p4 (Wg.mono w4 fun d S w => w.on (((e1.trans e2).trans e3).trans e4))
    | false => exact w3 _ ι3 H3 r3 ((e1.trans e2).trans e3) rfl
theorem se_ifx {c a b : Expr} {mc : Te} {ma mb : Ex} {pos : Pos} (hc : PT X c (tT X.K nm fx (evT C G mc))) (ha : PE X a (tE X.K nm fx (ev C G ma))) (hb : PE X b (tE X.K nm fx (ev C G mb))) : PE X (.IfExp c a b pos) (tE X.K nm fx (ev C G (.ifx mc ma mb))) := by
  refine PEimp (pe_ifExp hc ha hb) fun σ H Q h => ?_
  obtain ⟨ι, S, ρ, st, w⟩ := h
  simp only [ev] at w
  refine ⟨ι, S, ρ, st, w.bind.mono fun k S1 w1 ι1 H1 r1 e1 => ?_⟩
  cases k with
  | true => exact ⟨ι1, S1, ρ, st.on r1 e1, Wg.mono w1 fun d S2 w2 => w2.on e1⟩
  | false => exact ⟨ι1, S1, ρ, st.on r1 e1, Wg.mono w1 fun d S2 w2 => w2.on e1⟩
theorem so_none : PO X none (tO X.K nm fx (evo C G none)) := by
  refine POimp po_none fun σ H Q h => ?_
  obtain ⟨ι, S, ρ, st, w⟩ := h
  exact w ι H st.rel .refl
theorem so_some {e : Expr} {m : Ex} (h : PE X e (tE X.K nm fx (ev C G m))) : PO X (some e) (tO X.K nm fx (evo C G (some m))) := by
  refine POimp (po_some h) fun σ H Q h => ?_
  obtain ⟨ι, S, ρ, st, w⟩ := h
  simp only [evo] at w
  refine ⟨ι, S, ρ, st, w.bind.mono fun d S1 w1 v ι1 H1 r1 e1 p1 => ?_⟩
  cases d <;> first
    | exact False.elim w1
    | skip
  case int i =>
    cases p1
    exact ⟨i, rfl, w1 ι1 H1 r1 e1⟩
theorem se_sli {a : Expr} {lo hi : Option Expr} {ma : Ex} {ml mh : Option Ex} {pos p2 : Pos} (ha : PE X a (tE X.K nm fx (ev C G ma))) (hl : PO X lo (tO X.K nm fx (evo C G ml))) (hh : PO X hi (tO X.K nm fx (evo C G mh))) :
    PE X (.Subscript a (.Slice lo hi none p2) pos) (tE X.K nm fx (ev C G (.sli ma ml mh))) := by
  refine PEimp (pe_slice (ox_sli (nm := nm)) ha hl hh) fun σ H Q h => ?_
  obtain ⟨ι, S, ρ, st, w⟩ := h
  simp only [ev] at w
  refine ⟨ι, S, ρ, st, w.bind.mono fun d S1 w1 v ι1 H1 r1 e1 p1 => ?_⟩
  refine ⟨ι1, S1, ρ, st.on r1 e1, w1.bind.mono fun l S2 w2 ι2 H2 r2 e2 => ?_⟩
  refine ⟨ι2, S2, ρ, (st.on r1 e1).on r2 e2, w2.bind.mono fun h S3 w3 ι3 H3 r3 e3 => ?_⟩
  exact ⟨ι3, S3, d, r3, p1.mono r1 (e2.trans e3), (Wg.mono w3 fun d S w => w.on ((e1.trans e2).trans e3)).nox' (sliV_nox d l h S3)⟩
/-! ### calls of the text's own -/
theorem se_call (g : Gd X nm nms C G fl fx) {f : Nat} {e : Expr} {es : List Expr} {ms : List Ex} {p pos : Pos} (hf : fl.on f = true) (ha : PA X (e :: es) (tA X.K nm fx (evs C G ms))) (hg : Gl X (nms f)) (hdb : (nms f == ("__debug__" : Str)) = false)
    (he : starEach (e :: es) X.env = (false, eval e X.env) :: starEach es X.env) (hpl : (backTo pos (starEach es X.env)).any (·.1) = false) : PE X (.Call (.Name (nms f) p) (e :: es) [] pos) (tE X.K nm fx (ev C G (.call f ms))) := by
  obtain ⟨a, fd, ps, k, hm, hk, F, hr, hbd, _⟩ := g.fns f hf
  refine PEimp (pe_call F hr hg hm hk hbd .nil g.pass ha hdb he hpl) fun σ H Q h => ?_
  obtain ⟨ι, S, ρ, st, w⟩ := h
  simp only [ev] at w
  refine ⟨ι, S, ρ, st, w.bind.mono fun ds S1 w1 vs ι1 H1 r1 e1 p1 => ?_⟩
  show spF X.K nm nms (C f) (vs ++ []) H1 Q (Ew X.K nm nms fx)
  rw [List.append_nil]
  refine ⟨ι1, S1, ds, r1, p1, ?_⟩
  cases q : C f ds S1 with
  | ok d S2 =>
    rw [q] at w1
    exact Wv.on e1 w1
  | bad => rw [q] at w1; exact w1
  | exc x S2 =>
    rw [q] at w1
    exact fun cls d ι' H' r' e' xr => ⟨x, S2, ι', w1, r', (st.ext.trans e1).trans e', xr⟩
theorem se_call0 (g : Gd X nm nms C G fl fx) {f : Nat} {p pos : Pos} (hf : fl.on f = true) (hg : Gl X (nms f)) (hdb : (nms f == ("__debug__" : Str)) = false) : PE X (.Call (.Name (nms f) p) [] [] pos) (tE X.K nm fx (ev C G (.call f []))) := by
  obtain ⟨a, fd, ps, k, hm, hk, F, hr, hbd, _⟩ := g.fns f hf
  refine PEimp (pe_call0 F hr hg hm hk hbd .nil g.pass hdb) fun σ H Q h => ?_
  obtain ⟨ι, S, ρ, st, w⟩ := h
  simp only [ev, evs, R.bind_ok] at w
  refine ⟨ι, S, [], st.rel, rfl, ?_⟩
  cases q : C f [] S with
  | ok d S2 =>
    rw [q] at w
    exact w
  | bad => rw [q] at w; exact w
  | exc x S2 =>
    rw [q] at w
    exact fun cls d ι' H' r' e' xr => ⟨x, S2, ι', w, r', st.ext.trans e', xr⟩
/-! ### .. by names -/
theorem Reps.len2 {K : PySem.W.Frag} {ds : List D} {vs : List V} (r : Reps K nm ι H ds vs) : vs.length = ds.length := r.length
theorem Reps.perm {K : PySem.W.Frag} {ds : List D} {vs : List V} (r : Reps K nm ι H ds vs) : ∀ perm : List Nat, Reps K nm ι H (permL perm ds) (permL perm vs)
  | [] => rfl
  | i :: is => by
    have ih := r.perm is
    unfold permL at ih ⊢
    rw [List.filterMap_cons, List.filterMap_cons]
    cases q : ds[i]? with
    | none =>
      have : vs[i]? = none := by
        rw [List.getElem?_eq_none_iff] at q ⊢
        rw [r.length]
        exact q
      rw [this]
      exact ih
    | some d =>
      obtain ⟨v, h1, h2⟩ := r.get q
      rw [h1]
      exact ⟨v, _, rfl, h2, ih⟩
theorem PKimp {X : Cx} {e : List Keyword} {t t' : TA} (h : PK X e t) (i : ∀ σ H Q, t' σ H Q → t σ H Q) : PK X e t' := ⟨fun pos pins s σ H Q I q => h.run pos pins s σ H Q I (i _ _ _ q)⟩
theorem sk_nil : PK X [] (tA X.K nm fx (evs C G [])) := by
  refine PKimp pk_nil fun σ H Q h => ?_
  obtain ⟨ι, S, ρ, st, w⟩ := h
  exact w [] ι H st.rel .refl rfl
theorem sk_cons {x : Option Str} {kp : Pos} {e : Expr} {es : List Keyword} {m : Ex} {ms : List Ex} (h : PE X e (tE X.K nm fx (ev C G m))) (hs : PK X es (tA X.K nm fx (evs C G ms))) : PK X (⟨x, e, kp⟩ :: es) (tA X.K nm fx (evs C G (m :: ms))) := by
  refine PKimp (pk_cons h hs) fun σ H Q h => ?_
  obtain ⟨ι, S, ρ, st, w⟩ := h
  simp only [evs] at w
  refine ⟨ι, S, ρ, st, w.bind.mono fun d S1 w1 v ι1 H1 r1 e1 p1 => ?_⟩
  refine ⟨ι1, S1, ρ, st.on r1 e1, w1.bind.mono fun ds S2 w2 vs ι2 H2 r2 e2 p2 => ?_⟩
  exact w2 (v :: vs) ι2 H2 r2 (e1.trans e2) ⟨v, vs, rfl, p1.mono r1 e2, p2⟩
theorem pe_callN0 {X : Cx} {CX : CXT} {k : Nat} {f : Addr} {fd : FuncData} {ps ks : List Str} {sp : Sp} {E : XK} {x : Str} {p pos : Pos} {kws : List Keyword} {tk : TA} {g : List Value → List Value → List Value} {gV : List V → List V → List V} (F : FnOk X.prog X.w X.K X.mg X.base CX k f fd ps sp) (hr : Room k X.A) (hg : Gl X x) (hm : X.mg x = some (.ref f)) (hk : PySem.W.keepIn X.K (.ref f) = true) (hb : KBn X.K fd ps 0 ks g gV) (hx : Passes CX X E)
    (hkw : PK X kws tk) (hall : (backToKw pos (keywordEach kws X.env)).all (·.1.isSome) = true) (hks : (backToKw pos (keywordEach kws X.env)).filterMap (·.1) = ks) (hdb : (x == ("__debug__" : Str)) = false)
    (hpl : ((backTo pos (starEach [] X.env)).any (·.1) || (backToKw pos (keywordEach kws X.env)).any (·.1.isNone)) = false) :
    PE X (.Call (.Name x p) [] kws pos) (tCallN 0 ks.length sp gV E tNil tk) := by
  refine ⟨fun pins s σ H Q I h => ?_⟩
  refine wpAny_Call_Name_kw (ld_glob I hg hm ?_ hdb)
  refine PySem.W.callWith_KW0 (h₀ := X.base) I.ok.mod.kin hk hall ?_ hpl
  refine thn (hkw.run pos pins s σ H _ I h) fun ws s2 ⟨zs, H2, I2, rz, l1, l2, q2⟩ => ⟨I2.kIn, ?_⟩
  rw [hks]
  exact run_fnN (us := []) (vs := []) F hr hb hx I2 .nil rz rfl l2 q2
theorem kwNames {kws : List Keyword} {env : Env} {pos : Pos} (h : kws.all (fun k => k.arg.isSome) = true) : (backToKw pos (keywordEach kws env)).all (·.1.isSome) = true ∧ (backToKw pos (keywordEach kws env)).filterMap (·.1) = kws.filterMap (fun k => k.arg) ∧ (backToKw pos (keywordEach kws env)).any (·.1.isNone) = false := by
  induction kws with
  | nil => exact ⟨rfl, rfl, rfl⟩
  | cons k r ih =>
    obtain ⟨a, e, kp⟩ := k
    simp only [List.all_cons, Bool.and_eq_true] at h
    obtain ⟨h1, h2, h3⟩ := ih h.2
    obtain ⟨ha, _⟩ := h
    cases a with
    | none => cases ha
    | some a =>
      refine ⟨h1, ?_, h3⟩
      show a :: _ = a :: _
      rw [← h2]
      rfl
theorem evs_len {C : Nat → List D → Sto → R D} {G : Nat → Option D} : ∀ {es : List Ex} {ρ : Slo} {S : Sto} {P : List D → Sto → Prop} {XW : Xc → Sto → Prop}, Wg (evs C G es ρ S) P XW → Wg (evs C G es ρ S) (fun ds S' => ds.length = es.length ∧ P ds S') XW
  | [], ρ, S, P, XW, w => ⟨rfl, w⟩
  | e :: es, ρ, S, P, XW, w => by
    simp only [evs] at w ⊢
    cases q : ev C G e ρ S with
    | bad => rw [q] at w; exact w
    | exc x S1 => rw [q] at w; exact w
    | ok d S1 =>
      rw [q] at w
      simp only [R.bind_ok] at w ⊢
      have w2 := evs_len (P := fun ds S2 => P (d :: ds) S2) (XW := XW) (es := es) (ρ := ρ) (S := S1) (by
        cases q2 : evs C G es ρ S1 with
        | bad => rw [q2] at w; exact w
        | exc x S2 => rw [q2] at w; exact w
        | ok ds S2 => rw [q2] at w; exact w)
      cases q2 : evs C G es ρ S1 with
      | bad => rw [q2] at w2; exact w2
      | exc x S2 => rw [q2] at w2; exact w2
      | ok ds S2 => rw [q2] at w2; exact ⟨congrArg Nat.succ w2.1, w2.2⟩
theorem se_callk (g : Gd X nm nms C G fl fx) {f : Nat} {es : List Expr} {kws : List Keyword} {ms ks : List Ex} {perm : List Nat} {p pos : Pos} (hf : fl.on f = true) (hkf : fl.kw f ms.length (kws.filterMap fun k => k.arg) perm = true) (hkl : (kws.filterMap fun k => k.arg).length = ks.length) (ha : PA X es (tA X.K nm fx (evs C G ms))) (hkw : PK X kws (tA X.K nm fx (evs C G ks))) (hg : Gl X (nms f)) (hdb : (nms f == ("__debug__" : Str)) = false)
    (hnil : es = [] → ms = []) (he : ∀ e r, es = e :: r → starEach (e :: r) X.env = (false, eval e X.env) :: starEach r X.env) (hpl : (backTo pos (starEach es X.env)).any (·.1) = false) (hk : kws.all (fun k => k.arg.isSome) = true) : PE X (.Call (.Name (nms f) p) es kws pos) (tE X.K nm fx (ev C G (.callk f ms ks perm))) := by
  obtain ⟨a, fd, ps, k, hm, hkp, F, hr, hbd, hkn⟩ := g.fns f hf
  have kb := hkn _ _ _ hkf
  obtain ⟨k1, k2, k3⟩ := kwNames (env := X.env) (pos := pos) hk
  have go : ∀ (σ : L2.St) (ι S ρ ι2 S2 H H2 Q ds zs vs ws), Sta X.K nm fx ι S ρ σ H → Rel X.K nm ι2 S2 H2 → Ex' ι H ι2 H2 → Reps X.K nm ι2 H2 ds vs → Reps X.K nm ι2 H2 zs ws → Wg (C f (permL perm (ds ++ zs)) S2) (Wv X.K nm ι H Q) fx.XW →
      spF X.K nm nms (C f) (permL perm (vs ++ ws)) H2 Q (Ew X.K nm nms fx) := by
    intro σ ι S ρ ι2 S2 H H2 Q ds zs vs ws st r2 e2 p2 p3 w2
    refine ⟨ι2, S2, _, r2, (p2.append p3).perm perm, ?_⟩
    cases q : C f (permL perm (ds ++ zs)) S2 with
    | ok d S3 =>
      rw [q] at w2
      exact Wv.on e2 w2
    | bad => rw [q] at w2; exact w2
    | exc x S3 =>
      rw [q] at w2
      exact fun cls d ι' H' r' e' xr => ⟨x, S3, ι', w2, r', (st.ext.trans e2).trans e', xr⟩
  cases es with
  | nil =>
    obtain rfl := hnil rfl
    refine PEimp (pe_callN0 F hr hg hm hkp kb g.pass hkw k1 k2 hdb (by rw [k3] <;> rfl)) fun σ H Q h => ?_
    obtain ⟨ι, S, ρ, st, w⟩ := h
    simp only [ev, evs, R.bind_ok, List.nil_append] at w
    refine ⟨ι, S, ρ, st, (evs_len w.bind).mono fun zs S2 ⟨hl, w2⟩ ws ι2 H2 r2 e2 p2 => ?_⟩
    refine ⟨rfl, by rw [p2.length, hl, hkl], ?_⟩
    exact go σ ι S ρ ι2 S2 H H2 Q [] zs [] ws st r2 e2 rfl p2 w2
  | cons e r =>
    refine PEimp (pe_callN F hr hg hm hkp kb g.pass ha hkw k1 k2 hdb (he e r rfl) (by rw [hpl, k3] <;> rfl)) fun σ H Q h => ?_
    obtain ⟨ι, S, ρ, st, w⟩ := h
    simp only [ev] at w
    refine ⟨ι, S, ρ, st, (evs_len w.bind).mono fun ds S1 ⟨hl1, w1⟩ vs ι1 H1 r1 e1 p1 => ?_⟩
    refine ⟨ι1, S1, ρ, st.on r1 e1, (evs_len w1.bind).mono fun zs S2 ⟨hl, w2⟩ ws ι2 H2 r2 e2 p2 => ?_⟩
    refine ⟨by rw [p1.length, hl1], by rw [p2.length, hl, hkl], ?_⟩
    exact go σ ι S ρ ι2 S2 H H2 Q ds zs vs ws st r2 (e1.trans e2) (p1.mono r1 e2) p2 w2
/-! ### rows of things -/
theorem none_of {ι1 : List Addr} {H1 : Hp} {p : Addr} (e1 : Ex' ι H ι1 H1) (hp : H1 p = none) (r1 : p ∉ ι1) : H p = none := by
  cases q : H p with
  | none => rfl
  | some o =>
    have hi : p ∉ ι := fun hm => by
      obtain ⟨t, rfl⟩ := e1.pre
      exact r1 (List.mem_append_left _ hm)
    have := (e1.keep p o q hi).1
    rw [hp] at this
    cases this
/-- a list beside the store stands -/
theorem seq_side {ι1 : List Addr} {S1 : Sto} {H1 : Hp} {a : Addr} {xs : List V} {ds : List D} {g : List Nat} (r : Rel X.K nm ι1 S1 H1) (h : H1 a = some (.lst xs)) (hn : a ∉ ι1) (hx : Reps X.K nm ι1 H1 ds xs) : SeqAt X.K nm ι1 S1 H1 ⟨ds, g, false⟩ a := fun ι S H st => by
  obtain ⟨r2, e2, _⟩ := st
  exact ⟨xs, SqL.of (e2.keep a _ h hn).1, hx.mono r e2⟩
theorem sq_ex {e : Expr} {m : Ex} (h : PE X e (tE X.K nm fx (ev C G m))) : PE X e (tQ X.K nm fx (evQ C G (.ex m))) := by
  refine PEimp h fun σ H Q h => ?_
  obtain ⟨ι, S, ρ, st, w⟩ := h
  simp only [evQ] at w
  refine ⟨ι, S, ρ, st, w.bind.mono fun d S1 w1 v ι1 H1 r1 e1 p1 => ?_⟩
  cases d <;> first
    | exact False.elim w1
    | skip
  case tup ds =>
    obtain ⟨a, xs, rfl, h1, h2⟩ := p1
    exact w1 a ι1 H1 r1 e1 fun ι2 S2 H2 ⟨r2, e2, _⟩ => ⟨xs, r1.sqt e2 h1, h2.mono r1 e2⟩
  case fro ds =>
    obtain ⟨a, xs, rfl, h1, h2⟩ := p1
    exact w1 a ι1 H1 r1 e1 fun ι2 S2 H2 ⟨r2, e2, _⟩ => ⟨xs, (r1.sqf e2 h1).l, h2.mono r1 e2⟩
  case ref n =>
    simp only [seqV] at w1
    split at w1
    · rename_i ds hds
      obtain ⟨a, xs, rfl, hn, h1, h2⟩ := r1.ref hds p1
      refine w1 a ι1 H1 r1 e1 fun ι2 S2 H2 ⟨r2, e2, g2⟩ => ?_
      have hd2 : S2[n]? = some (.lst ds) := (g2 n (List.mem_singleton.mpr rfl)).trans hds
      obtain ⟨b, ys, hb, h3, h4⟩ := r2.lst hd2
      rw [e2.at_ hn] at hb
      cases hb
      exact ⟨ys, SqL.of h3, h4⟩
    · exact w1.elim
theorem sq_fr {e : Expr} {m : Fr} (h : PE X e (tF X.K nm fx (evF C G m))) : PE X e (tQ X.K nm fx (evQ C G (.fr m))) := by
  refine PEimp h fun σ H Q h => ?_
  obtain ⟨ι, S, ρ, st, w⟩ := h
  simp only [evQ] at w
  refine ⟨ι, S, ρ, st, w.bind.mono fun ds S1 w1 p xs ι1 H1 r1 e1 n1 h1 i1 p1 => ?_⟩
  exact w1 p ι1 H1 r1 e1 (seq_side r1 h1 i1 p1)
theorem se_new {e : Expr} {m : Fr} (h : PE X e (tF X.K nm fx (evF C G m))) : PE X e (tE X.K nm fx (ev C G (.new m))) := by
  refine PEimp h fun σ H Q h => ?_
  obtain ⟨ι, S, ρ, st, w⟩ := h
  simp only [ev] at w
  refine ⟨ι, S, ρ, st, w.bind.mono fun ds S1 w1 p xs ι1 H1 r1 e1 n1 h1 i1 p1 => ?_⟩
  obtain ⟨r2, e2⟩ := r1.take h1 i1 p1 H ι e1 n1
  exact w1 _ _ H1 r2 e2 ⟨p, by rw [← r1.len]; simp, rfl⟩
def Mono1 (es : List Expr) : Prop := True
/-- a built-in of one argument, a row -/
theorem sq_at {ι1 : List Addr} {S1 : Sto} {H1 : Hp} {sv : Sv} {a : Addr} (r : Rel X.K nm ι1 S1 H1) (h : SeqAt X.K nm ι1 S1 H1 sv a) : ∃ xs, (SqL X.K H1 a xs ∨ SqT X.K H1 a xs) ∧ (sv.tup = false → SqL X.K H1 a xs) ∧ (sv.tup = true → SqT X.K H1 a xs) ∧ Reps X.K nm ι1 H1 sv.ds xs := by
  obtain ⟨xs, h1, h2⟩ := h ι1 S1 H1 (Stb.refl r)
  cases q : sv.tup with
  | true =>
    rw [q] at h1
    exact ⟨xs, .inr h1, fun z => (nomatch z), fun _ => h1, h2⟩
  | false =>
    rw [q] at h1
    exact ⟨xs, .inl h1, fun _ => h1, fun z => (nomatch z), h2⟩
theorem pa_one {e : Expr} {t : TE} (h : PE X e t) (he : starEach [e] X.env = (false, eval e X.env) :: starEach [] X.env) : PA X [e] (tCons t tNil) := pa_cons h pa_nil he
theorem nohpl {pos : Pos} : (backTo pos (starEach [] X.env)).any (·.1) = false := rfl
theorem se_len (g : Gd X nm nms C G fl fx) {e : Expr} {m : Ex} {p pos : Pos} (h : PE X e (tE X.K nm fx (ev C G m))) (hg : Gl X "len") (he : starEach [e] X.env = (false, eval e X.env) :: starEach [] X.env) : PE X (.Call (.Name "len" p) [e] [] pos) (tE X.K nm fx (ev C G (.len m))) := by
  refine PEimp (pe_callB call_len hg (g.blt _ (by simp [blts])) PySem.boot_len (pa_one h he) (by decide) (by decide) he) fun σ H Q h => ?_
  obtain ⟨ι, S, ρ, st, w⟩ := h
  simp only [ev] at w
  refine ⟨ι, S, ρ, st, w.bind.mono fun d S1 w1 v ι1 H1 r1 e1 p1 => ?_⟩
  have nx : ∀ x S', lenV d S1 ≠ .exc x S' := fun x S' => by unfold lenV; split <;> (repeat' split) <;> exact fun q => by cases q
  obtain ⟨n, h1, h2⟩ := len_rep r1 p1 (w1.nox' nx)
  exact ⟨v, n, rfl, h1, h2 _ ι1 H1 r1 e1 rfl⟩
theorem se_lenq (g : Gd X nm nms C G fl fx) {e : Expr} {m : Sq} {p pos : Pos} (h : PE X e (tQ X.K nm fx (evQ C G m))) (hg : Gl X "len") (he : starEach [e] X.env = (false, eval e X.env) :: starEach [] X.env) : PE X (.Call (.Name "len" p) [e] [] pos) (tE X.K nm fx (ev C G (.lenq m))) := by
  refine PEimp (pe_callB call_len_seq hg (g.blt _ (by simp [blts])) PySem.boot_len (pa_one h he) (by decide) (by decide) he) fun σ H Q h => ?_
  obtain ⟨ι, S, ρ, st, w⟩ := h
  simp only [ev] at w
  refine ⟨ι, S, ρ, st, w.bind.mono fun sv S1 w1 a ι1 H1 r1 e1 p1 => ?_⟩
  obtain ⟨xs, h1, _, _, h4⟩ := sq_at r1 p1
  refine ⟨a, xs, rfl, h1, ?_⟩
  rw [h4.length]
  exact w1 _ ι1 H1 r1 e1 rfl
theorem bools_rep {ι1 : List Addr} {H1 : Hp} : ∀ {ds : List D} {bs : List Bool} {xs : List V}, boolsD ds = some bs → Reps X.K nm ι1 H1 ds xs → xs = bs.map V.bl
  | [], bs, xs, h, r => by cases h; cases r; rfl
  | d :: ds, bs, xs, h, r => by
    obtain ⟨v, w, rfl, h1, h2⟩ := r
    cases d <;> first
      | (cases h; done)
      | skip
    case bl b =>
      simp only [boolsD, Option.map_eq_some_iff] at h
      obtain ⟨cs, h3, rfl⟩ := h
      cases h1
      rw [bools_rep h3 h2]
      rfl
theorem strs_rep {ι1 : List Addr} {H1 : Hp} : ∀ {ds : List D} {bs : List (List Nat)} {xs : List V}, strsD ds = some bs → Reps X.K nm ι1 H1 ds xs → xs = (bs.map strOf).map V.str
  | [], bs, xs, h, r => by cases h; cases r; rfl
  | d :: ds, bs, xs, h, r => by
    obtain ⟨v, w, rfl, h1, h2⟩ := r
    cases d <;> first
      | (cases h; done)
      | skip
    case str b =>
      simp only [strsD, Option.map_eq_some_iff] at h
      obtain ⟨cs, h3, rfl⟩ := h
      cases h1
      rw [strs_rep h3 h2]
      rfl
theorem se_all (g : Gd X nm nms C G fl fx) {e : Expr} {m : Sq} {p pos : Pos} (h : PE X e (tQ X.K nm fx (evQ C G m))) (hg : Gl X "all") (he : starEach [e] X.env = (false, eval e X.env) :: starEach [] X.env) : PE X (.Call (.Name "all" p) [e] [] pos) (tE X.K nm fx (ev C G (.all_ m))) := by
  refine PEimp (pe_callB (cr_all g.calm) hg (g.blt _ (by simp [blts])) (by decide +kernel) (pa_one h he) (by decide) (by decide) he) fun σ H Q h => ?_
  obtain ⟨ι, S, ρ, st, w⟩ := h
  simp only [ev] at w
  refine ⟨ι, S, ρ, st, w.bind.mono fun sv S1 w1 a ι1 H1 r1 e1 p1 => ?_⟩
  obtain ⟨xs, h1, h2, _, h4⟩ := sq_at r1 p1
  split at w1
  · rename_i bs hb
    split at hb
    · cases hb
    · rename_i ht
      refine ⟨a, bs, rfl, ?_, w1 _ ι1 H1 r1 e1 rfl⟩
      rw [← bools_rep hb h4]
      exact h2 (by simpa using ht)
  · exact w1.elim
theorem se_any (g : Gd X nm nms C G fl fx) {e : Expr} {m : Sq} {p pos : Pos} (h : PE X e (tQ X.K nm fx (evQ C G m))) (hg : Gl X "any") (he : starEach [e] X.env = (false, eval e X.env) :: starEach [] X.env) : PE X (.Call (.Name "any" p) [e] [] pos) (tE X.K nm fx (ev C G (.any_ m))) := by
  refine PEimp (pe_callB (cr_any g.calm) hg (g.blt _ (by simp [blts])) (by decide +kernel) (pa_one h he) (by decide) (by decide) he) fun σ H Q h => ?_
  obtain ⟨ι, S, ρ, st, w⟩ := h
  simp only [ev] at w
  refine ⟨ι, S, ρ, st, w.bind.mono fun sv S1 w1 a ι1 H1 r1 e1 p1 => ?_⟩
  obtain ⟨xs, h1, h2, _, h4⟩ := sq_at r1 p1
  split at w1
  · rename_i bs hb
    split at hb
    · cases hb
    · rename_i ht
      refine ⟨a, bs, rfl, ?_, w1 _ ι1 H1 r1 e1 rfl⟩
      rw [← bools_rep hb h4]
      exact h2 (by simpa using ht)
  · exact w1.elim
theorem se_tupq (g : Gd X nm nms C G fl fx) {e : Expr} {m : Sq} {p pos : Pos} (h : PE X e (tQ X.K nm fx (evQ C G m))) (hg : Gl X "tuple") (he : starEach [e] X.env = (false, eval e X.env) :: starEach [] X.env) : PE X (.Call (.Name "tuple" p) [e] [] pos) (tE X.K nm fx (ev C G (.tupq m))) := by
  refine PEimp (pe_callTy call_tuple_of hg (g.blt _ (by simp [blts])) (by decide +kernel) (pa_one h he) (by decide) (by decide) he) fun σ H Q h => ?_
  obtain ⟨ι, S, ρ, st, w⟩ := h
  simp only [ev] at w
  refine ⟨ι, S, ρ, st, w.bind.mono fun sv S1 w1 a ι1 H1 r1 e1 p1 => ?_⟩
  obtain ⟨xs, h1, h2, h3, h4⟩ := sq_at r1 p1
  refine ⟨a, xs, rfl, ?_⟩
  cases q : sv.tup with
  | true => exact .inr ⟨h3 q, w1 _ ι1 H1 r1 e1 ⟨a, xs, rfl, h3 q, h4⟩⟩
  | false =>
    refine .inl ⟨h2 q, fun l hl => ?_⟩
    obtain ⟨r2, e2⟩ := r1.side (o := .tup xs) hl
    exact w1 _ ι1 _ r2 (e1.trans e2) ⟨l, xs, rfl, SqT.of upd_same, h4.mono r1 e2⟩
theorem sf_list (g : Gd X nm nms C G fl fx) {e : Expr} {m : Sq} {p pos : Pos} (h : PE X e (tQ X.K nm fx (evQ C G m))) (hg : Gl X "list") (he : starEach [e] X.env = (false, eval e X.env) :: starEach [] X.env) : PE X (.Call (.Name "list" p) [e] [] pos) (tF X.K nm fx (evF C G (.list m))) := by
  refine PEimp (pe_callTy call_list_of hg (g.blt _ (by simp [blts])) (by decide +kernel) (pa_one h he) (by decide) (by decide) he) fun σ H Q h => ?_
  obtain ⟨ι, S, ρ, st, w⟩ := h
  simp only [evF] at w
  refine ⟨ι, S, ρ, st, w.bind.mono fun sv S1 w1 a ι1 H1 r1 e1 p1 => ?_⟩
  obtain ⟨xs, h1, h2, h3, h4⟩ := sq_at r1 p1
  refine ⟨a, xs, rfl, h1, fun l hl => ?_⟩
  obtain ⟨r2, e2⟩ := r1.side (o := .lst xs) hl
  exact w1 l xs ι1 _ r2 (e1.trans e2) (none_of e1 hl (r1.free hl)) upd_same (r1.free hl) (h4.mono r1 e2)
theorem sf_cut {a : Expr} {lo hi : Option Expr} {ma : Ex} {ml mh : Option Ex} {pos p2 : Pos} (ha : PE X a (tE X.K nm fx (ev C G ma))) (hl : PO X lo (tO X.K nm fx (evo C G ml))) (hh : PO X hi (tO X.K nm fx (evo C G mh))) :
    PE X (.Subscript a (.Slice lo hi none p2) pos) (tF X.K nm fx (evF C G (.cut ma ml mh))) := by
  refine PEimp (pe_slice sl_list ha hl hh) fun σ H Q h => ?_
  obtain ⟨ι, S, ρ, st, w⟩ := h
  simp only [evF] at w
  refine ⟨ι, S, ρ, st, w.bind.mono fun d S1 w1 v ι1 H1 r1 e1 p1 => ?_⟩
  refine ⟨ι1, S1, ρ, st.on r1 e1, w1.bind.mono fun l S2 w2 ι2 H2 r2 e2 => ?_⟩
  refine ⟨ι2, S2, ρ, (st.on r1 e1).on r2 e2, w2.bind.mono fun h S3 w3 ι3 H3 r3 e3 => ?_⟩
  have fin : ∀ (ds : List D) (a : Addr) (xs : List V), v = .ref a → SqL X.K H3 a xs → Reps X.K nm ι3 H3 ds xs → (∀ p xs ι' H', Rel X.K nm ι' S3 H' → Ex' ι H ι' H' → H p = none → H' p = some (.lst xs) → p ∉ ι' → Reps X.K nm ι' H' (cutL ds l h) xs → Q (.ref p) H') → rSlL X.K v l h H3 Q := by
    rintro ds a xs rfl h1 h2 k
    refine ⟨a, xs, rfl, h1, fun p hp => ?_⟩
    obtain ⟨r4, e4⟩ := r3.side (o := .lst (L2.cutV xs l h)) hp
    exact k p _ ι3 _ r4 (((e1.trans e2).trans e3).trans e4) (none_of ((e1.trans e2).trans e3) hp (r3.free hp)) upd_same (r3.free hp) ((h2.cut l h).mono r3 e4)
  cases d <;> first
    | exact False.elim w3
    | skip
  case fro ds =>
    obtain ⟨a, xs, rfl, h1, h2⟩ := p1
    exact fin ds a xs rfl (r1.sqf (e2.trans e3) h1).l (h2.mono r1 (e2.trans e3)) w3
  case ref n =>
    simp only [seqV] at w3
    split at w3
    · rename_i ds hds
      obtain ⟨a, xs, rfl, _, h1, h2⟩ := r3.ref hds (p1.mono r1 (e2.trans e3))
      exact fin ds a xs rfl (SqL.of h1) h2 w3
    · exact w3.elim
end
end Pl

set_option maxHeartbeats 2000000
/-! Tests, texts, isinstance, walks, comprehensions. -/
namespace Pl
open PySem L2
section
variable {X : Cx} {nm : Nat → Addr} {nms : Nat → Str} {C : Nat → List D → Sto → R D} {G : Nat → Option D} {fl : Fl} {fx : Fx} {ι : List Addr} {H : Hp}
/-! ### tests -/
theorem truV_nox (d : D) (S : Sto) (x : Xc) (S' : Sto) : truV d S ≠ .exc x S' := by
  unfold truV
  split <;> (repeat' split) <;> exact fun q => by cases q
theorem st_ex {e : Expr} {m : Ex} (h : PE X e (tE X.K nm fx (ev C G m))) (he : ∀ whole, isTrue e X.env whole = (do let v ← whole; standAt e.pos; holding [v] (truthy v))) : PT X e (tT X.K nm fx (evT C G (.ex m))) := by
  refine PTimp (pt_truth h he) fun σ H Q h => ?_
  obtain ⟨ι, S, ρ, st, w⟩ := h
  simp only [evT] at w
  refine ⟨ι, S, ρ, st, w.bind.mono fun d S1 w1 v ι1 H1 r1 e1 p1 => ?_⟩
  obtain ⟨k, h1, h2⟩ := tru_rep r1 p1 (w1.nox' (truV_nox d S1))
  exact ⟨k, h1, h2 ι1 H1 r1 e1⟩
theorem st_cmp (g : Gd X nm nms C G fl fx) {a b : Expr} {ma mb : Ex} {op : COp} {pos : Pos} (ha : PE X a (tE X.K nm fx (ev C G ma))) (hb : PE X b (tE X.K nm fx (ev C G mb))) (hm : behindInMarks op.op b = false) : PT X (.Compare a [op.op] [b] pos) (tT X.K nm fx (evT C G (.cmp op ma mb))) := by
  refine PTimp (pt_cmpR (os_cmp (nm := nm) (by have := g.un; omega) op) ha hb hm) fun σ H Q h => ?_
  obtain ⟨ι, S, ρ, st, w⟩ := h
  simp only [evT] at w
  refine ⟨ι, S, ρ, st, w.bind.mono fun d S1 w1 v ι1 H1 r1 e1 p1 => ?_⟩
  refine ⟨ι1, S1, ρ, st.on r1 e1, w1.bind.mono fun d2 S2 w2 v2 ι2 H2 r2 e2 p2 => ?_⟩
  refine rof_go r1 r2 e2 p1 p2 (w2.bind.mono fun z S3 w3 z' ι3 H3 r3 e3 p3 => ?_)
  cases z <;> first
    | exact False.elim w3
    | skip
  case bl k =>
    cases p3
    exact ⟨k, rfl, w3 ι3 H3 r3 ((e1.trans e2).trans e3)⟩
theorem st_chn (g : Gd X nm nms C G fl fx) {a b c : Expr} {ma mb mc : Ex} {o1 o2 : COp} {pos : Pos} (ha : PE X a (tE X.K nm fx (ev C G ma))) (hb : PE X b (tE X.K nm fx (ev C G mb))) (hc : PE X c (tE X.K nm fx (ev C G mc)))
    (hm : lastMarks [o1.op, o2.op] [b, c] = false) : PT X (.Compare a [o1.op, o2.op] [b, c] pos) (tT X.K nm fx (evT C G (.chn o1 o2 ma mb mc))) := by
  have hu : X.A.units + 64 < cLine := by have := g.un; omega
  refine PTimp (pt_chain (os_cmp (nm := nm) hu o1) (os_cmp (nm := nm) hu o2) ha hb hc hm) fun σ H Q h => ?_
  obtain ⟨ι, S, ρ, st, w⟩ := h
  simp only [evT] at w
  refine ⟨ι, S, ρ, st, w.bind.mono fun d S1 w1 v ι1 H1 r1 e1 p1 => ?_⟩
  refine ⟨ι1, S1, ρ, st.on r1 e1, w1.bind.mono fun d2 S2 w2 v2 ι2 H2 r2 e2 p2 => ?_⟩
  refine rof_go r1 r2 e2 p1 p2 (w2.bind.mono fun z S3 w3 z' ι3 H3 r3 e3 p3 => ?_)
  cases z <;> first
    | exact False.elim w3
    | skip
  case bl k =>
    cases p3
    refine ⟨k, rfl, ?_⟩
    cases k with
    | true =>
      refine ⟨ι3, S3, ρ, (st.on r1 e1).on r3 (e2.trans e3), Wg.mono w3.bind fun d4 S4 w4 v4 ι4 H4 r4 e4 p4 => ?_⟩
      refine rof_go r3 r4 e4 (p2.mono r2 e3) p4 (w4.bind.mono fun z S5 w5 z' ι5 H5 r5 e5 p5 => ?_)
      cases z <;> first
        | exact False.elim w5
        | skip
      case bl k =>
        cases p5
        exact ⟨k, rfl, w5 ι5 H5 r5 ((((e1.trans e2).trans e3).trans e4).trans e5)⟩
    | false => exact ⟨false, rfl, w3 ι3 H3 r3 ((e1.trans e2).trans e3)⟩
theorem PWimp {e : Expr} {t t' : TT} (h : PW X e t) (i : ∀ σ H Q, t' σ H Q → t σ H Q) : PW X e t' := ⟨fun wh pins s σ H Q I q => h.run wh pins s σ H Q I (i _ _ _ q)⟩
theorem sw_and {a b : Expr} {rest : List Expr} {ma mb : Te} {pos : Pos} (ha : PT X a (tT X.K nm fx (evT C G ma))) (hb : PW X (.BoolOp .And (b :: rest) pos) (tT X.K nm fx (evT C G mb))) : PW X (.BoolOp .And (a :: b :: rest) pos) (tT X.K nm fx (evT C G (.and_ ma mb))) := by
  refine PWimp (pw_and ha hb) fun σ H Q h => ?_
  obtain ⟨ι, S, ρ, st, w⟩ := h
  simp only [evT] at w
  refine ⟨ι, S, ρ, st, w.bind.mono fun k S1 w1 ι1 H1 r1 e1 => ?_⟩
  cases k with
  | true => exact ⟨ι1, S1, ρ, st.on r1 e1, Wg.mono w1 fun d S2 w2 ι2 H2 r2 e2 => w2 ι2 H2 r2 (e1.trans e2)⟩
  | false => exact w1 ι1 H1 r1 e1
theorem sw_or {a b : Expr} {rest : List Expr} {ma mb : Te} {pos : Pos} (ha : PT X a (tT X.K nm fx (evT C G ma))) (hb : PW X (.BoolOp .Or (b :: rest) pos) (tT X.K nm fx (evT C G mb))) : PW X (.BoolOp .Or (a :: b :: rest) pos) (tT X.K nm fx (evT C G (.or_ ma mb))) := by
  refine PWimp (pw_or ha hb) fun σ H Q h => ?_
  obtain ⟨ι, S, ρ, st, w⟩ := h
  simp only [evT] at w
  refine ⟨ι, S, ρ, st, w.bind.mono fun k S1 w1 ι1 H1 r1 e1 => ?_⟩
  cases k with
  | false => exact ⟨ι1, S1, ρ, st.on r1 e1, Wg.mono w1 fun d S2 w2 ι2 H2 r2 e2 => w2 ι2 H2 r2 (e1.trans e2)⟩
  | true => exact w1 ι1 H1 r1 e1
theorem st_not {a : Expr} {ma : Te} {pos : Pos} (ha : PT X a (tT X.K nm fx (evT C G ma))) : PT X (.UnaryOp .Not a pos) (tT X.K nm fx (evT C G (.not_ ma))) := by
  refine PTimp (pt_not ha) fun σ H Q h => ?_
  obtain ⟨ι, S, ρ, st, w⟩ := h
  simp only [evT] at w
  exact ⟨ι, S, ρ, st, w.bind.mono fun k S1 w1 ι1 H1 r1 e1 => w1 ι1 H1 r1 e1⟩
/-! ### texts -/
theorem join_of (s : List Nat) : ∀ xs : List (List Nat), Txt.join (strOf s) (xs.map strOf) = strOf (joinL s xs)
  | [] => rfl
  | [x] => rfl
  | x :: y :: r => by
    have h := join_of s (y :: r)
    rw [TL.join_eq] at h ⊢
    show strOf x ++ strOf s ++ Str.join (strOf s) ((y :: r).map strOf) = _
    rw [h, strOf_app, strOf_app]
    rfl
theorem lens_of : ∀ xs : List (List Nat), ((xs.map strOf).map (·.length)).sum = (xs.map List.length).sum
  | [] => rfl
  | x :: r => by
    simp only [List.map_cons, List.sum_cons, strOf_len]
    rw [← lens_of r]
theorem se_join {o e : Expr} {mo : Ex} {m : Sq} {apos pos : Pos} (ho : PE X o (tE X.K nm fx (ev C G mo))) (h : PE X e (tQ X.K nm fx (evQ C G m))) (hs : starEach [e] X.env = [(false, eval e X.env)]) (hbase : attributeBase o "join" X.env (eval o X.env) = eval o X.env) (hline : (apos.endLine == pos.line) = true) :
    PE X (.Call (.Attribute o "join" apos) [e] [] pos) (tE X.K nm fx (ev C G (.join mo m))) := by
  refine PEimp (pe_join ho h hs hbase hline) fun σ H Q h => ?_
  obtain ⟨ι, S, ρ, st, w⟩ := h
  simp only [ev] at w
  refine ⟨ι, S, ρ, st, w.bind.mono fun d S1 w1 v ι1 H1 r1 e1 p1 => ?_⟩
  cases d <;> first
    | exact False.elim w1
    | skip
  case str t =>
  cases p1
  refine ⟨⟨_, rfl⟩, ι1, S1, ρ, st.on r1 e1, w1.bind.mono fun sv S2 w2 a ι2 H2 r2 e2 p2 => ?_⟩
  obtain ⟨xs, h1, _, _, h4⟩ := sq_at r2 p2
  split at w2
  · rename_i ys hys
    split at w2
    · rename_i hl
      refine ⟨strOf t, a, ys.map strOf, rfl, rfl, ?_, ?_, ?_⟩
      · rw [← strs_rep hys h4]
        exact h1
      · rw [lens_of, List.length_map, strOf_len]
        exact Nat.le_trans hl (by decide)
      · rw [join_of]
        exact w2 _ ι2 H2 r2 (e1.trans e2) rfl
    · exact w2.elim
  · exact w2.elim
theorem str_back (z : Str) : strOf z.cps.toList = z := by
  obtain ⟨c⟩ := z
  simp [strOf]
theorem se_part {o e : Expr} {mo m : Ex} {apos pos : Pos} (ho : PE X o (tE X.K nm fx (ev C G mo))) (h : PE X e (tE X.K nm fx (ev C G m))) (hs : starEach [e] X.env = [(false, eval e X.env)]) (hbase : attributeBase o "partition" X.env (eval o X.env) = eval o X.env) (hline : (apos.endLine == pos.line) = true) :
    PE X (.Call (.Attribute o "partition" apos) [e] [] pos) (tE X.K nm fx (ev C G (.part mo m))) := by
  refine PEimp (pe_partition ho h hs hbase hline) fun σ H Q h => ?_
  obtain ⟨ι, S, ρ, st, w⟩ := h
  simp only [ev] at w
  refine ⟨ι, S, ρ, st, w.bind.mono fun d S1 w1 v ι1 H1 r1 e1 p1 => ?_⟩
  cases d <;> first
    | exact False.elim w1
    | skip
  case str a =>
  cases p1
  refine ⟨⟨_, rfl⟩, ι1, S1, ρ, st.on r1 e1, w1.bind.mono fun d2 S2 w2 v2 ι2 H2 r2 e2 p2 => ?_⟩
  cases d2 <;> first
    | exact False.elim w2
    | skip
  case str b =>
  cases p2
  simp only at w2
  split at w2
  · exact w2.elim
  · rename_i hc
    refine ⟨strOf a, strOf b, rfl, rfl, ?_, ?_, fun p hp => ?_⟩
    · rw [strOf_len]
      simp only [beq_eq_false_iff_ne]
      omega
    · rw [strOf_len]
      exact lim_le (by omega)
    · obtain ⟨r3, e3⟩ := r2.side (o := .tup [.str (Txt.partition (strOf a) (strOf b)).1, .str (Txt.partition (strOf a) (strOf b)).2.1, .str (Txt.partition (strOf a) (strOf b)).2.2]) hp
      refine w2 _ ι2 _ r3 ((e1.trans e2).trans e3) ⟨p, _, rfl, SqT.of upd_same, ?_⟩
      exact ⟨_, _, rfl, congrArg V.str (str_back _).symm, _, _, rfl, congrArg V.str (str_back _).symm, _, _, rfl, congrArg V.str (str_back _).symm, rfl⟩
theorem se_find3 {o e f : Expr} {mo m mf : Ex} {apos pos : Pos} (ho : PE X o (tE X.K nm fx (ev C G mo))) (h : PE X e (tE X.K nm fx (ev C G m))) (hf : PE X f (tE X.K nm fx (ev C G mf)))
    (hs : starEach [e, f] X.env = (false, eval e X.env) :: starEach [f] X.env) (hs2 : starEach [f] X.env = (false, eval f X.env) :: starEach [] X.env) (hbase : attributeBase o "find" X.env (eval o X.env) = eval o X.env) (hline : (apos.endLine == pos.line) = true) :
    PE X (.Call (.Attribute o "find" apos) [e, f] [] pos) (tE X.K nm fx (ev C G (.find3 mo m mf))) := by
  refine PEimp (pe_bm PySem.F.plainAttrs_str PySem.F.slot_str_find PySem.F.type_str_find mt_find3 ho (pa_cons h (pa_cons hf pa_nil hs2) hs) hbase (by rw [hs, hs2] <;> rfl) hline hs (by rw [hs2] <;> rfl)) fun σ H Q h => ?_
  obtain ⟨ι, S, ρ, st, w⟩ := h
  simp only [ev] at w
  refine ⟨ι, S, ρ, st, w.bind.mono fun d S1 w1 v ι1 H1 r1 e1 p1 => ?_⟩
  cases d <;> first
    | exact False.elim w1
    | skip
  case str a =>
  cases p1
  refine ⟨rfl, ι1, S1, ρ, st.on r1 e1, w1.bind.mono fun d2 S2 w2 v2 ι2 H2 r2 e2 p2 => ?_⟩
  refine ⟨ι2, S2, ρ, (st.on r1 e1).on r2 e2, w2.bind.mono fun d3 S3 w3 v3 ι3 H3 r3 e3 p3 => ?_⟩
  cases d2 <;> cases d3 <;> first
    | exact False.elim w3
    | skip
  case str.int b j =>
  cases p2
  cases p3
  exact ⟨strOf a, strOf b, j, rfl, rfl, w3 _ ι3 H3 r3 ((e1.trans e2).trans e3) rfl⟩
/-! ### isinstance -/
def Ty.tn : Ty → String
  | .int => "int" | .bool => "bool" | .str => "str" | .list => "list" | .tuple => "tuple"
def tyN : D → Sto → Option String
  | .non, _ => some "NoneType" | .bl _, _ => some "bool" | .int _, _ => some "int" | .str _, _ => some "str" | .tup _, _ => some "tuple"
  | .ref n, S => match S[n]? with
    | some (.lst _) => some "list"
    | _ => none
  | _, _ => none
theorem sqt_ty {K : PySem.W.Frag} {a : Addr} {xs : List V} (h : SqT K H a xs) : TyX K H (.ref a) (.type "tuple") := by
  rcases h with (h | ⟨o, h⟩) | ⟨o, its, n, h, hc, _⟩
  · exact .base (.tup h)
  · exact .fTuple h
  · exact .kTuple h hc
theorem ty_rep {K : PySem.W.Frag} {S : Sto} {d : D} {v : V} {us : List Ty} (rel : Rel K nm ι S H) (r : Rep K nm ι H d v) (h : tyOf d S = some us) : ∃ a, TyX K H v (.type a) ∧ ∀ t : Ty, PySem.W.kitOne K (.type a) (.type t.tn) = some (us.any fun u => t.eqb u) := by
  cases d <;> first
    | (cases h; done)
    | skip
  case non => cases h; cases r; exact ⟨_, .base .non, fun t => by cases t <;> exact kit_ty (by decide +kernel)⟩
  case bl b => cases h; cases r; exact ⟨_, .base (.bl b), fun t => by cases t <;> exact kit_ty (by decide +kernel)⟩
  case int i => cases h; cases r; exact ⟨_, .base (.int i), fun t => by cases t <;> exact kit_ty (by decide +kernel)⟩
  case str z => cases h; cases r; exact ⟨_, .base (.str _), fun t => by cases t <;> exact kit_ty (by decide +kernel)⟩
  case tup ds =>
    cases h
    obtain ⟨a, xs, rfl, h1, _⟩ := r
    exact ⟨_, sqt_ty h1, fun t => by cases t <;> exact kit_ty (by decide +kernel)⟩
  case ref n =>
    simp only [tyOf] at h
    split at h
    · rename_i ds hds
      cases h
      obtain ⟨a, xs, rfl, _, h1, _⟩ := rel.ref hds r
      exact ⟨_, .base (.lst h1), fun t => by cases t <;> exact kit_ty (by decide +kernel)⟩
    · cases h
theorem isV_nox (d : D) (ts : List Ty) (S : Sto) (x : Xc) (S' : Sto) : isV d ts S ≠ .exc x S' := by
  unfold isV
  split <;> exact fun q => by cases q
theorem se_isi (g : Gd X nm nms C G fl fx) {e : Expr} {m : Ex} {t : Ty} {x : Str} {p p2 pos : Pos} (h : PE X e (tE X.K nm fx (ev C G m))) (ht : PE X (.Name x p2) (tC (.ty t.tn))) (hg : Gl X "isinstance")
    (hs : starEach [e, .Name x p2] X.env = (false, eval e X.env) :: starEach [.Name x p2] X.env) : PE X (.Call (.Name "isinstance" p) [e, .Name x p2] [] pos) (tE X.K nm fx (ev C G (.isi m t))) := by
  refine PEimp (pe_callB call_isi hg (g.blt _ (by simp [blts])) (by decide +kernel) (pa_cons h (pa_cons ht pa_nil rfl) hs) (by decide) (by decide) hs rfl) fun σ H Q h => ?_
  obtain ⟨ι, S, ρ, st, w⟩ := h
  simp only [ev] at w
  refine ⟨ι, S, ρ, st, w.bind.mono fun d S1 w1 v ι1 H1 r1 e1 p1 => ?_⟩
  simp only [isV] at w1
  split at w1
  · rename_i us hus
    obtain ⟨a, h1, h2⟩ := ty_rep r1 p1 hus
    refine ⟨v, .ty t.tn, .type a, .type t.tn, _, rfl, .ty _, h1, h2 t, ?_⟩
    refine w1 _ ι1 H1 r1 e1 ?_
    simp only [List.any_cons, List.any_nil, Bool.or_false]
    rfl
  · exact w1.elim
theorem se_isi2 (g : Gd X nm nms C G fl fx) {e : Expr} {m : Ex} {t u : Ty} {x y : Str} {k : Nat} {p p2 p3 p4 pos : Pos} (h : PE X e (tE X.K nm fx (ev C G m))) (ht : PE X (.Name x p2) (tC (.ty t.tn))) (hu : PE X (.Name y p3) (tC (.ty u.tn))) (hg : Gl X "isinstance")
    (hs : starEach [e, .Tuple [.Name x p2, .Name y p3] k p4] X.env = (false, eval e X.env) :: starEach [.Tuple [.Name x p2, .Name y p3] k p4] X.env) : PE X (.Call (.Name "isinstance" p) [e, .Tuple [.Name x p2, .Name y p3] k p4] [] pos) (tE X.K nm fx (ev C G (.isi2 m t u))) := by
  refine PEimp (pe_callB call_isiT hg (g.blt _ (by simp [blts])) (by decide +kernel) (pa_cons h (pa_cons (pe_tup (pa_cons ht (pa_cons hu pa_nil rfl) rfl)) pa_nil rfl) hs) (by decide) (by decide) hs rfl) fun σ H Q h => ?_
  obtain ⟨ι, S, ρ, st, w⟩ := h
  simp only [ev] at w
  refine ⟨ι, S, ρ, st, w.bind.mono fun d S1 w1 v ι1 H1 r1 e1 p1 => ?_⟩
  refine ⟨by show 2 ≤ sizeLine; decide, fun q hq => ?_⟩
  obtain ⟨r2, e2⟩ := r1.side (o := .tup [.ty t.tn, .ty u.tn]) hq
  simp only [isV] at w1
  split at w1
  · rename_i us hus
    obtain ⟨a, h1, h2⟩ := ty_rep r2 (p1.mono r1 e2) hus
    refine ⟨v, q, [.ty t.tn, .ty u.tn], .type a, [.type t.tn, .type u.tn], _, rfl, upd_same, .cons (.ty _) (.cons (.ty _) .nil), h1, kitAny_cons (b := us.any fun z => t.eqb z) (r := (us.any fun z => t.eqb z) || (us.any fun z => u.eqb z)) (h2 t) (fun hb => ?_) (fun hb => by rw [hb] <;> rfl), ?_⟩
    · exact kitAny_cons (h2 u) (fun hb2 => by rw [hb, hb2]; exact kitAny_nil) (fun hb2 => by rw [hb2, Bool.or_true])
    · refine w1 _ ι1 _ r2 (e1.trans e2) ?_
      simp only [List.any_cons, List.any_nil, Bool.or_false]
      rfl
  · exact w1.elim
/-! ### walks -/
theorem wk_list {K : PySem.W.Frag} {sv : Sv} {ι1 : List Addr} {S1 : Sto} {H1 : Hp} {a : Addr} (h : SeqAt K nm ι1 S1 H1 sv a) (ht : sv.tup = false) : Wk K nm (Itl K a) sv ι1 S1 H1 := by
  have q : ∀ ι S H, Stb K nm ι1 S1 H1 sv.g ι S H → ∃ xs, SqL K H a xs ∧ Reps K nm ι H sv.ds xs := fun ι S H st => by
    obtain ⟨xs, h1, h2⟩ := h ι S H st
    rw [ht] at h1
    exact ⟨xs, h1, h2⟩
  refine ⟨fun i ι S H st hi => ?_, fun ι S H st => ?_, fun i ι S H x H' st hi y => ?_⟩
  · obtain ⟨xs, h1, h2⟩ := q ι S H st
    exact ⟨xs, xs[i]'(by rw [h2.length]; exact hi), h1, by simp⟩
  · obtain ⟨xs, h1, h2⟩ := q ι S H st
    exact ⟨xs, h1, by rw [h2.length]; exact Nat.le_refl _⟩
  · obtain ⟨xs, h1, h2⟩ := q ι S H st
    obtain ⟨rfl, y⟩ := y
    obtain ⟨d, h3, h4⟩ := h2.get' (y xs h1)
    exact ⟨d, h3, st.1, .refl, h4⟩
theorem wk_tup {K : PySem.W.Frag} {sv : Sv} {ι1 : List Addr} {S1 : Sto} {H1 : Hp} {a : Addr} (h : SeqAt K nm ι1 S1 H1 sv a) (ht : sv.tup = true) : Wk K nm (Itt K a) sv ι1 S1 H1 := by
  have q : ∀ ι S H, Stb K nm ι1 S1 H1 sv.g ι S H → ∃ xs, SqT K H a xs ∧ Reps K nm ι H sv.ds xs := fun ι S H st => by
    obtain ⟨xs, h1, h2⟩ := h ι S H st
    rw [ht] at h1
    exact ⟨xs, h1, h2⟩
  refine ⟨fun i ι S H st hi => ?_, fun ι S H st => ?_, fun i ι S H x H' st hi y => ?_⟩
  · obtain ⟨xs, h1, h2⟩ := q ι S H st
    exact ⟨xs, xs[i]'(by rw [h2.length]; exact hi), h1, by simp⟩
  · obtain ⟨xs, h1, h2⟩ := q ι S H st
    exact ⟨xs, h1, by rw [h2.length]; exact Nat.le_refl _⟩
  · obtain ⟨xs, h1, h2⟩ := q ι S H st
    obtain ⟨rfl, y⟩ := y
    obtain ⟨d, h3, h4⟩ := h2.get' (y xs h1)
    exact ⟨d, h3, st.1, .refl, h4⟩
/-- a list or a tuple, as it comes -/
def iSeq (K : PySem.W.Frag) (t : TE) : TI := fun σ H R => t σ H fun x H1 => ∃ a, x = .ref a ∧ (((∃ xs, SqL K H1 a xs) ∧ R (Itl K a) H1) ∨ ((∃ xs, SqT K H1 a xs) ∧ R (Itt K a) H1))
theorem pi_seq {tg l : Expr} {t : TE} (hl : PE X l t) : PI X tg l (iSeq X.K t) := ⟨fun pins s σ H R I h => by
  refine thn (hl.run pins s σ H _ I h) fun v s1 w => ?_
  obtain ⟨x, H1, I1, r1, a, e1, w⟩ := w
  subst e1
  cases r1
  have kp : Inv X pins σ H1 { s1 with heap := s1.heap.push { cls := .type "list_iterator", data := .fields #[.ref a, .int 0 0] } } := I1.kept (t' := s1.toks) fun b o q => Heap.get?_push_of_some _ q
  have kt : Inv X pins σ H1 { s1 with heap := s1.heap.push { cls := .type "tuple_iterator", data := .fields #[.ref a, .int 0 0] } } := I1.kept (t' := s1.toks) fun b o q => Heap.get?_push_of_some _ q
  have fp : ∀ b ∈ [s1.heap.objs.size], FpOk X pins H1 b := fun b hb => by
    rw [List.mem_singleton.mp hb]
    exact I1.fpOk (Nat.le_refl _) (I1.hok.fresh (Nat.le_refl _))
  rcases w with ⟨⟨xs, hq⟩, w⟩ | ⟨⟨xs, hq⟩, w⟩
  · obtain ⟨its, _, pl, _⟩ := I1.list hq
    exact wpAny_pyIter_list pl.isList ⟨_, [s1.heap.objs.size], _, _, H1, rfl, kp, turn_list a _, ⟨_, Heap.get?_push_size _ rfl, rfl, rfl⟩, fp, w⟩
  · obtain ⟨its, _, pl, _⟩ := I1.tuple hq
    exact wpAny_pyIter_tuple (show s1.heap.IsTuple a its.toArray from pl) ⟨_, [s1.heap.objs.size], _, _, H1, rfl, kt, turn_tuple a _, ⟨_, Heap.get?_push_size _ rfl, rfl, rfl⟩, fp, w⟩⟩
theorem si_sq {tg e : Expr} {m : Sq} (h : PE X e (tQ X.K nm fx (evQ C G m))) : PI X tg e (tI X.K nm fx (evI C G (.sq m))) := by
  refine PIimp (pi_seq h) fun σ H R h => ?_
  obtain ⟨ι, S, ρ, st, w⟩ := h
  simp only [evI] at w
  refine ⟨ι, S, ρ, st, w.mono fun sv S1 w1 a ι1 H1 r1 e1 p1 => ⟨a, rfl, ?_⟩⟩
  obtain ⟨xs, h1, h2⟩ := p1 ι1 S1 H1 (Stb.refl r1)
  cases q : sv.tup with
  | true =>
    rw [q] at h1
    exact .inr ⟨⟨xs, h1⟩, w1 _ ι1 H1 r1 e1 (wk_tup p1 q)⟩
  | false =>
    rw [q] at h1
    exact .inl ⟨⟨xs, h1⟩, w1 _ ι1 H1 r1 e1 (wk_list p1 q)⟩
theorem wk_fn {K : PySem.W.Frag} {J : L2.It} {sv : Sv} {ι1 : List Addr} {S1 : Sto} {H1 : Hp} {n : Nat} (hn : sv.ds.length = n) (go : ∀ i H, i < n → J.go i H) (stop : ∀ H, J.stop n H)
    (yld : ∀ i H x H', i < n → J.yld i H x H' → H' = H ∧ ∃ d, sv.ds[i]? = some d ∧ ∀ ι H, Rep K nm ι H d x) : Wk K nm J sv ι1 S1 H1 := by
  subst hn
  refine ⟨fun i ι S H st hi => go i H hi, fun ι S H st => stop H, fun i ι S H x H' st hi y => ?_⟩
  obtain ⟨rfl, d, h1, h2⟩ := yld i H x H' hi y
  exact ⟨d, h1, st.1, .refl, h2 _ _⟩
theorem si_str {tg e : Expr} {m : Ex} (h : PE X e (tE X.K nm fx (ev C G m))) : PI X tg e (tI X.K nm fx (evI C G (.str m))) := by
  refine PIimp (pi_str h) fun σ H R h => ?_
  obtain ⟨ι, S, ρ, st, w⟩ := h
  simp only [evI] at w
  refine ⟨ι, S, ρ, st, w.bind.mono fun d S1 w1 v ι1 H1 r1 e1 p1 => ?_⟩
  cases d <;> first
    | exact False.elim w1
    | skip
  case str z =>
    cases p1
    refine ⟨_, rfl, w1 _ ι1 H1 r1 e1 (wk_fn (n := z.length) (by simp) (fun i H hi => by show i < z.toArray.size; simpa using hi) (fun H => by show z.toArray.size ≤ z.length; simp) fun i H x H' hi y => ?_)⟩
    obtain ⟨rfl, c, h1, rfl⟩ := y
    refine ⟨rfl, .str [c], ?_, fun ι H => rfl⟩
    have h2 : z[i]? = some c := by simpa using h1
    rw [List.getElem?_map, h2]
    rfl
theorem si_rng (g : Gd X nm nms C G fl fx) {tg e : Expr} {m : Ex} {p pos : Pos} (h : PE X e (tE X.K nm fx (ev C G m))) (hg : Gl X "range") (hs : starEach [e] X.env = [(false, eval e X.env)]) : PI X tg (.Call (.Name "range" p) [e] [] pos) (tI X.K nm fx (evI C G (.rng m))) := by
  refine PIimp (pi_range1 hg (g.blt _ (by simp [blts])) (pa_cons h pa_nil hs) hs) fun σ H R h => ?_
  obtain ⟨ι, S, ρ, st, w⟩ := h
  simp only [evI] at w
  refine ⟨ι, S, ρ, st, w.bind.mono fun d S1 w1 v ι1 H1 r1 e1 p1 => ?_⟩
  cases d <;> first
    | exact False.elim w1
    | skip
  case int n =>
    cases p1
    simp only at w1
    split at w1
    · rename_i hn
      refine ⟨n, rfl, by omega, by omega, w1 _ ι1 H1 r1 e1 (wk_fn (n := n.toNat) (by simp) (fun i H hi => hi) (fun H => Nat.le_refl _) fun i H x H' hi y => ?_)⟩
      obtain ⟨rfl, rfl⟩ := y
      refine ⟨rfl, .int (i : Nat), by simp [hi], fun ι H => ?_⟩
      show V.int (0 + (i : Int)) = V.int (i : Nat)
      rw [Int.zero_add]
    · exact w1.elim
theorem si_rng2 (g : Gd X nm nms C G fl fx) {tg e f : Expr} {m mf : Ex} {p pos : Pos} (h : PE X e (tE X.K nm fx (ev C G m))) (hf : PE X f (tE X.K nm fx (ev C G mf))) (hg : Gl X "range")
    (hs : starEach [e, f] X.env = [(false, eval e X.env), (false, eval f X.env)]) (hs2 : starEach [f] X.env = [(false, eval f X.env)]) : PI X tg (.Call (.Name "range" p) [e, f] [] pos) (tI X.K nm fx (evI C G (.rng2 m mf))) := by
  refine PIimp (pi_range2 hg (g.blt _ (by simp [blts])) (pa_cons h (pa_cons hf pa_nil hs2) (by rw [hs, hs2])) hs hs2) fun σ H R h => ?_
  obtain ⟨ι, S, ρ, st, w⟩ := h
  simp only [evI] at w
  refine ⟨ι, S, ρ, st, w.bind.mono fun d S1 w1 v ι1 H1 r1 e1 p1 => ?_⟩
  refine ⟨ι1, S1, ρ, st.on r1 e1, w1.bind.mono fun d2 S2 w2 v2 ι2 H2 r2 e2 p2 => ?_⟩
  cases d <;> cases d2 <;> first
    | exact False.elim w2
    | skip
  case int.int i j =>
    cases p1
    cases p2
    simp only at w2
    split at w2
    · rename_i hn
      refine ⟨i, j, rfl, by omega, w2 _ ι2 H2 r2 (e1.trans e2) (wk_fn (n := (j - i).toNat) (by simp) (fun i H hi => hi) (fun H => Nat.le_refl _) fun k H x H' hk y => ?_)⟩
      obtain ⟨rfl, rfl⟩ := y
      exact ⟨rfl, .int (i + (k : Nat)), by simp [hk], fun ι H => rfl⟩
    · exact w2.elim
theorem pair_new {ι2 : List Addr} {S2 : Sto} {H2 : Hp} {T : Addr} {x y : V} {d e : D} (r : Rel X.K nm ι2 S2 H2) (hT : H2 T = none) (hx : Rep X.K nm ι2 H2 d x) (hy : Rep X.K nm ι2 H2 e y) :
    Rel X.K nm ι2 S2 (upd H2 T (.tup [x, y])) ∧ Ex' ι2 H2 ι2 (upd H2 T (.tup [x, y])) ∧ Rep X.K nm ι2 (upd H2 T (.tup [x, y])) (.tup [d, e]) (.ref T) := by
  obtain ⟨r1, e1⟩ := r.side (o := .tup [x, y]) hT
  exact ⟨r1, e1, T, _, rfl, SqT.of upd_same, x, _, rfl, hx.mono r e1, y, _, rfl, hy.mono r e1, rfl⟩
theorem si_enum (g : Gd X nm nms C G fl fx) {e : Expr} {m : Sq} {elts : List Expr} {kk : Nat} {p pos tpos : Pos} (h : PE X e (tQ X.K nm fx (evQ C G m))) (hg : Gl X "enumerate") (hs : starEach [e] X.env = [(false, eval e X.env)]) : PI X (.Tuple elts kk tpos) (.Call (.Name "enumerate" p) [e] [] pos) (tI X.K nm fx (evI C G (.enum m))) := by
  refine PIimp (pi_enum hg (g.blt _ (by simp [blts])) (pa_cons h pa_nil hs) hs) fun σ H R h => ?_
  obtain ⟨ι, S, ρ, st, w⟩ := h
  simp only [evI] at w
  refine ⟨ι, S, ρ, st, w.bind.mono fun sv S1 w1 a ι1 H1 r1 e1 p1 => ?_⟩
  split at w1
  · exact w1.elim
  · rename_i ht
    have ht' : sv.tup = false := by simpa using ht
    have q : ∀ ι S H, Stb X.K nm ι1 S1 H1 sv.g ι S H → ∃ xs, SqL X.K H a xs ∧ Reps X.K nm ι H sv.ds xs := fun ι S H st => by
      obtain ⟨xs, h1, h2⟩ := p1 ι S H st
      rw [ht'] at h1
      exact ⟨xs, h1, h2⟩
    obtain ⟨xs, h1, h2⟩ := q _ _ _ (Stb.refl r1)
    refine ⟨a, xs, rfl, h1, w1 _ ι1 H1 r1 e1 ⟨fun i ι S H st hi => ?_, fun ι S H st => ?_, fun i ι S H x H' st hi y => ?_⟩⟩
    · obtain ⟨ys, h3, h4⟩ := q ι S H st
      have hi' : i < ys.length := by
        rw [h4.length]
        simpa using hi
      exact ⟨ys, ys[i], h3, by simp⟩
    · obtain ⟨ys, h3, h4⟩ := q ι S H st
      exact ⟨ys, h3, by rw [h4.length]; simp⟩
    · obtain ⟨ys, h3, h4⟩ := q ι S H st
      obtain ⟨T, z, rfl, hT, rfl, hz⟩ := y
      obtain ⟨d, h5, h6⟩ := h4.get' (hz ys h3)
      obtain ⟨r3, e3, p3⟩ := pair_new (d := .int (i : Nat)) st.1 hT rfl h6
      have hi' : i < sv.ds.length := by simpa using hi
      refine ⟨_, ?_, r3, e3, p3⟩
      have hz2 : ((List.range sv.ds.length).zip sv.ds)[i]? = some (i, d) := List.getElem?_zip_eq_some.mpr ⟨List.getElem?_range hi', h5⟩
      rw [List.getElem?_map, hz2]
      rfl
theorem Stb.left {K : PySem.W.Frag} {ι1 : List Addr} {S1 : Sto} {H1 : Hp} {g g' : List Nat} {ι : List Addr} {S : Sto} {H : Hp} (h : Stb K nm ι1 S1 H1 (g ++ g') ι S H) : Stb K nm ι1 S1 H1 g ι S H ∧ Stb K nm ι1 S1 H1 g' ι S H :=
  ⟨⟨h.1, h.2.1, fun i hi => h.2.2 i (List.mem_append_left _ hi)⟩, ⟨h.1, h.2.1, fun i hi => h.2.2 i (List.mem_append_right _ hi)⟩⟩
theorem grd_some {α : Type} {g : List Nat} {S S' : Sto} {r : R α} {P : α → Sto → Prop} {XW : Xc → Sto → Prop} (w : Wg (grd g S S' r) P XW) : (∀ i ∈ g, S'[i]? = S[i]?) ∧ Wg r P XW := by
  unfold grd at w
  split at w
  · exact ⟨by assumption, w⟩
  · exact w.elim
theorem si_zip (g : Gd X nm nms C G fl fx) {e f : Expr} {m mf : Sq} {elts : List Expr} {kk : Nat} {p pos tpos : Pos} (h : PE X e (tQ X.K nm fx (evQ C G m))) (hf : PE X f (tQ X.K nm fx (evQ C G mf))) (hg : Gl X "zip")
    (hs : starEach [e, f] X.env = (false, eval e X.env) :: starEach [f] X.env) (hs2 : starEach [f] X.env = [(false, eval f X.env)]) : PI X (.Tuple elts kk tpos) (.Call (.Name "zip" p) [e, f] [] pos) (tI X.K nm fx (evI C G (.zip m mf))) := by
  refine PIimp (RZ.pi_zipA hg (g.blt _ (by simp [blts])) (pa_cons h (pa_cons hf pa_nil hs2) hs) hs (by rw [hs2] <;> rfl)) fun σ H R h => ?_
  obtain ⟨ι, S, ρ, st, w⟩ := h
  simp only [evI] at w
  refine ⟨ι, S, ρ, st, w.bind.mono fun sv S1 w1 a ι1 H1 r1 e1 p1 => ?_⟩
  refine ⟨ι1, S1, ρ, st.on r1 e1, w1.bind.mono fun sw S2 w2 b ι2 H2 r2 e2 p2 => ?_⟩
  obtain ⟨hgd, w2⟩ := grd_some w2
  have p1' : SeqAt X.K nm ι2 S2 H2 sv a := fun ι S H ⟨r, e, gs⟩ => p1 ι S H ⟨r, e2.trans e, fun i hi => (gs i hi).trans (hgd i hi)⟩
  split at w2
  · rename_i ht
    have e12 := e1.trans e2
    have zg : ∀ (i : Nat) (d d2 : D), sv.ds[i]? = some d → sw.ds[i]? = some d2 → ((sv.ds.zip sw.ds).map fun xy => D.tup [xy.1, xy.2])[i]? = some (.tup [d, d2]) := fun i d d2 h1 h2 => by
      have hz2 : (sv.ds.zip sw.ds)[i]? = some (d, d2) := List.getElem?_zip_eq_some.mpr ⟨h1, h2⟩
      rw [List.getElem?_map, hz2]
      rfl
    cases q : sv.tup with
    | false =>
      have q2 : sw.tup = false := ht ▸ q
      have at1 : ∀ ι S H, Stb X.K nm ι2 S2 H2 sv.g ι S H → ∃ xs, SqL X.K H a xs ∧ Reps X.K nm ι H sv.ds xs := fun ι S H st => by
        obtain ⟨xs, h1, h2⟩ := p1' ι S H st
        rw [q] at h1
        exact ⟨xs, h1, h2⟩
      have at2 : ∀ ι S H, Stb X.K nm ι2 S2 H2 sw.g ι S H → ∃ xs, SqL X.K H b xs ∧ Reps X.K nm ι H sw.ds xs := fun ι S H st => by
        obtain ⟨xs, h1, h2⟩ := p2 ι S H st
        rw [q2] at h1
        exact ⟨xs, h1, h2⟩
      obtain ⟨xs, h1, h2⟩ := at1 _ _ _ (Stb.refl r2)
      obtain ⟨ys, h3, h4⟩ := at2 _ _ _ (Stb.refl r2)
      refine ⟨a, b, xs, ys, rfl, .inl ⟨h1, h3, w2 _ ι2 H2 r2 e12 ⟨fun i ι S H st hi => ?_, fun ι S H st => ?_, fun i ι S H x H' st hi y => ?_⟩⟩⟩
      · obtain ⟨st1, st2⟩ := st.left
        obtain ⟨us, h5, h6⟩ := at1 _ _ _ st1
        obtain ⟨vs, h7, h8⟩ := at2 _ _ _ st2
        have hi' : i < sv.ds.length ∧ i < sw.ds.length := by simpa [Nat.lt_min] using hi
        have hu : i < us.length := by rw [h6.length]; exact hi'.1
        have hv : i < vs.length := by rw [h8.length]; exact hi'.2
        exact ⟨us, vs, us[i], vs[i], h5, h7, by simp, by simp⟩
      · obtain ⟨st1, st2⟩ := st.left
        obtain ⟨us, h5, h6⟩ := at1 _ _ _ st1
        obtain ⟨vs, h7, h8⟩ := at2 _ _ _ st2
        refine ⟨us, vs, h5, h7, ?_⟩
        rw [h6.length, h8.length]
        simp only [List.length_map, List.length_zip]
        omega
      · obtain ⟨st1, st2⟩ := st.left
        obtain ⟨us, h5, h6⟩ := at1 _ _ _ st1
        obtain ⟨vs, h7, h8⟩ := at2 _ _ _ st2
        obtain ⟨T, z, z2, rfl, hT, rfl, hz, hz2⟩ := y
        obtain ⟨d, h9, h10⟩ := h6.get' (hz us h5)
        obtain ⟨d2, h11, h12⟩ := h8.get' (hz2 vs h7)
        obtain ⟨r3, e3, p3⟩ := pair_new st.1 hT h10 h12
        exact ⟨_, zg i d d2 h9 h11, r3, e3, p3⟩
    | true =>
      have q2 : sw.tup = true := ht ▸ q
      have at1 : ∀ ι S H, Stb X.K nm ι2 S2 H2 sv.g ι S H → ∃ xs, SqT X.K H a xs ∧ Reps X.K nm ι H sv.ds xs := fun ι S H st => by
        obtain ⟨xs, h1, h2⟩ := p1' ι S H st
        rw [q] at h1
        exact ⟨xs, h1, h2⟩
      have at2 : ∀ ι S H, Stb X.K nm ι2 S2 H2 sw.g ι S H → ∃ xs, SqT X.K H b xs ∧ Reps X.K nm ι H sw.ds xs := fun ι S H st => by
        obtain ⟨xs, h1, h2⟩ := p2 ι S H st
        rw [q2] at h1
        exact ⟨xs, h1, h2⟩
      obtain ⟨xs, h1, h2⟩ := at1 _ _ _ (Stb.refl r2)
      obtain ⟨ys, h3, h4⟩ := at2 _ _ _ (Stb.refl r2)
      refine ⟨a, b, xs, ys, rfl, .inr ⟨h1, h3, w2 _ ι2 H2 r2 e12 ⟨fun i ι S H st hi => ?_, fun ι S H st => ?_, fun i ι S H x H' st hi y => ?_⟩⟩⟩
      · obtain ⟨st1, st2⟩ := st.left
        obtain ⟨us, h5, h6⟩ := at1 _ _ _ st1
        obtain ⟨vs, h7, h8⟩ := at2 _ _ _ st2
        have hi' : i < sv.ds.length ∧ i < sw.ds.length := by simpa [Nat.lt_min] using hi
        have hu : i < us.length := by rw [h6.length]; exact hi'.1
        have hv : i < vs.length := by rw [h8.length]; exact hi'.2
        exact ⟨us, vs, us[i], vs[i], h5, h7, by simp, by simp⟩
      · obtain ⟨st1, st2⟩ := st.left
        obtain ⟨us, h5, h6⟩ := at1 _ _ _ st1
        obtain ⟨vs, h7, h8⟩ := at2 _ _ _ st2
        refine ⟨us, vs, h5, h7, ?_⟩
        rw [h6.length, h8.length]
        simp only [List.length_map, List.length_zip]
        omega
      · obtain ⟨st1, st2⟩ := st.left
        obtain ⟨us, h5, h6⟩ := at1 _ _ _ st1
        obtain ⟨vs, h7, h8⟩ := at2 _ _ _ st2
        obtain ⟨T, z, z2, rfl, hT, rfl, hz, hz2⟩ := y
        obtain ⟨d, h9, h10⟩ := h6.get' (hz us h5)
        obtain ⟨d2, h11, h12⟩ := h8.get' (hz2 vs h7)
        obtain ⟨r3, e3, p3⟩ := pair_new st.1 hT h10 h12
        exact ⟨_, zg i d d2 h9 h11, r3, e3, p3⟩
  · exact w2.elim
/-! ### targets -/
theorem wipe_set {σ : L2.St} {i : Nat} {x : Option V} : ∀ {ws : List Nat}, i ∈ ws → wipe (σ.set i x) ws = wipe σ ws
  | [], h => nomatch h
  | w :: ws, h => by
    unfold wipe
    by_cases hi : i ∈ ws
    · rw [wipe_set hi]
    · have e : i = w := by
        rcases List.mem_cons.mp h with e | e
        · exact e
        · exact absurd e hi
      subst e
      have aux : ∀ {vs : List Nat}, i ∉ vs → wipe (σ.set i x) vs = (wipe σ vs).set i x := by
        intro vs
        induction vs with
        | nil => intro _; rfl
        | cons v vs ih =>
          intro hn
          unfold wipe
          rw [ih fun hm => hn (List.mem_cons_of_mem _ hm), List.set_comm _ _ fun e => hn (by rw [e]; exact List.mem_cons_self)]
      rw [aux hi, List.set_set]
def gAll : List Nat → TGs
  | [] => gNil
  | i :: is => gCons (gName i) (gAll is)
/-- a target's reading -/
def gTg (K : PySem.W.Frag) (tg : List Nat) : Bool → TG
  | false => gName (tg.headD 0)
  | true => gTup K tg.length (gAll tg)
theorem slo_set {K : PySem.W.Frag} {ρ : Slo} {σ : L2.St} {i : Nat} {d : D} {v : V} (hl : ρ.length = σ.length) (h : ∀ (i : Nat) (d : D), ρ[i]? = some (some d) → ∃ v, σ[i]? = some (some v) ∧ Rep K nm ι H d v) (r : Rep K nm ι H d v) :
    (ρ.set i (some d)).length = (σ.set i (some v)).length ∧ ∀ (j : Nat) (e : D), (ρ.set i (some d))[j]? = some (some e) → ∃ v', (σ.set i (some v))[j]? = some (some v') ∧ Rep K nm ι H e v' := by
  refine ⟨by simp [hl], fun j e h2 => ?_⟩
  by_cases hj : i = j
  · subst hj
    by_cases hi : i < ρ.length
    · rw [List.getElem?_set_self hi] at h2
      cases h2
      exact ⟨v, List.getElem?_set_self (by rw [← hl]; exact hi), r⟩
    · rw [List.getElem?_eq_none (by simpa using hi)] at h2
      cases h2
  · rw [List.getElem?_set_ne hj] at h2
    rw [List.getElem?_set_ne hj]
    exact h j e h2
theorem Sta.set {ρ : Slo} {σ : L2.St} {S : Sto} {i : Nat} {d : D} {v : V} (st : Sta X.K nm fx ι S ρ σ H) (r : Rep X.K nm ι H d v) : Sta X.K nm fx ι S (ρ.set i (some d)) (σ.set i (some v)) H := by
  obtain ⟨h1, h2⟩ := slo_set (i := i) st.len st.slo r
  exact ⟨st.rel, st.ext, h1, h2⟩
theorem all_go {ds : List D} : ∀ {tg : List Nat} {xs : List V} {ρ ρ' : Slo} {σ : L2.St} {S : Sto} {Q : L2.St → Hp → Prop}, Sta X.K nm fx ι S ρ σ H → Reps X.K nm ι H ds xs → setAll tg ds ρ = some ρ' →
    (∀ σ', Sta X.K nm fx ι S ρ' σ' H → (∀ ws : List Nat, (∀ i ∈ tg, i ∈ ws) → wipe σ' ws = wipe σ ws) → Q σ' H) → gAll tg xs σ H Q := by
  induction ds with
  | nil =>
    intro tg xs ρ ρ' σ S Q st r h k
    cases r
    cases tg with
    | nil => cases h; exact ⟨rfl, k σ st fun _ _ => rfl⟩
    | cons i is => cases h
  | cons d ds ih =>
    intro tg xs ρ ρ' σ S Q st r h k
    obtain ⟨v, w, rfl, h1, h2⟩ := r
    cases tg with
    | nil => cases h
    | cons i is =>
      refine ⟨v, w, rfl, ih (st.set h1) h2 h fun σ' st' hw => k σ' st' fun ws hm => ?_⟩
      rw [hw ws fun j hj => hm j (List.mem_cons_of_mem _ hj)]
      exact wipe_set (hm i List.mem_cons_self)
end
end Pl

set_option maxHeartbeats 2000000
/-! Comprehensions and statements. -/
namespace Pl
open PySem L2
section
variable {X : Cx} {nm : Nat → Addr} {nms : Nat → Str} {C : Nat → List D → Sto → R D} {G : Nat → Option D} {fl : Fl} {fx : Fx} {ι : List Addr} {S : Sto} {H : Hp}
theorem Rel.sidePut {K : PySem.W.Frag} (r : Rel K nm ι S H) {p : Addr} {xs ys : List V} (hp : H p = some (.lst xs)) (hi : p ∉ ι) : Rel K nm ι S (upd H p (.lst ys)) ∧ ∀ {ds : List D} {vs : List V}, Reps K nm ι H ds vs → Reps K nm ι (upd H p (.lst ys)) ds vs := by
  have ht : ∀ a zs, SqT K H a zs → SqT K (upd H p (.lst ys)) a zs := fun a zs h => by
    rcases h with (h | ⟨o, h⟩) | h
    · refine .inl (.inl ?_)
      rw [upd_ne (ne_of h hp (by intro q; cases q))]
      exact h
    · refine .inl (.inr ⟨o, ?_⟩)
      rw [upd_ne (ne_of h hp (by intro q; cases q))]
      exact h
    · exact .inr h
  have hf : ∀ a zs, SqF K H a zs → SqF K (upd H p (.lst ys)) a zs := fun a zs h => by
    rcases h with ⟨o, h⟩ | h
    · refine .inl ⟨o, ?_⟩
      rw [upd_ne (ne_of h hp (by intro q; cases q))]
      exact h
    · exact .inr h
  refine ⟨⟨r.len, r.nd, fun i a o h1 h2 => ?_⟩, fun h => Reps.to (fun _ _ z => z) ht hf h⟩
  have q := r.ob i a o h1 h2
  have ha : a ≠ p := fun e => hi (by rw [← e]; exact List.mem_of_getElem? h1)
  cases o with
  | lst ds =>
    obtain ⟨zs, h3, h4⟩ := q
    exact ⟨zs, by rw [upd_ne ha]; exact h3, Reps.to (fun _ _ z => z) ht hf h4⟩
  | dct kvs => exact q
  | ins c fs => exact q
theorem wipe_in {σ : L2.St} {i : Nat} : ∀ {vs : List Nat}, i ∈ vs → (wipe σ vs)[i]? = (σ[i]?).map fun _ => none
  | [], h => nomatch h
  | v :: vs, h => by
    unfold wipe
    by_cases e : v = i
    · subst e
      by_cases hl : v < (wipe σ vs).length
      · have hl2 : v < σ.length := by rw [wipe_length] at hl; exact hl
        rw [List.getElem?_set_self hl, List.getElem?_eq_getElem hl2]
        rfl
      · have hl2 : ¬ v < σ.length := by rw [wipe_length] at hl; exact hl
        rw [List.getElem?_eq_none (by simpa using hl), List.getElem?_eq_none (by omega)]
        rfl
    · rw [List.getElem?_set_ne e]
      rcases List.mem_cons.mp h with q | q
      · exact absurd q.symm e
      · exact wipe_in q
theorem wipe_idem {σ : L2.St} {vs : List Nat} : wipe (wipe σ vs) vs = wipe σ vs := by
  apply List.ext_getElem?
  intro i
  by_cases h : i ∈ vs
  · rw [wipe_in h, wipe_in h]
    cases σ[i]? <;> rfl
  · rw [wipe_out h]
theorem wipeD_len (ρ : Slo) : ∀ vs : List Nat, (wipeD ρ vs).length = ρ.length
  | [] => rfl
  | v :: vs => by unfold wipeD; rw [List.length_set, wipeD_len ρ vs]
theorem wipeD_some {ρ : Slo} {i : Nat} {d : D} : ∀ {vs : List Nat}, (wipeD ρ vs)[i]? = some (some d) → ρ[i]? = some (some d) ∧ i ∉ vs
  | [], h => ⟨h, fun q => nomatch q⟩
  | v :: vs, h => by
    unfold wipeD at h
    by_cases e : v = i
    · subst e
      by_cases hl : v < (wipeD ρ vs).length
      · rw [List.getElem?_set_self hl] at h; cases h
      · rw [List.getElem?_eq_none (by simpa using hl)] at h; cases h
    · rw [List.getElem?_set_ne e] at h
      obtain ⟨h1, h2⟩ := wipeD_some h
      exact ⟨h1, fun q => by
        rcases List.mem_cons.mp q with q | q
        · exact e q.symm
        · exact h2 q⟩
theorem Sta.wipe {ρ : Slo} {σ : L2.St} (st : Sta X.K nm fx ι S ρ σ H) (vs : List Nat) : Sta X.K nm fx ι S (wipeD ρ vs) (L2.wipe σ vs) H :=
  ⟨st.rel, st.ext, by rw [wipeD_len, wipe_length, st.len], fun i d h => by
    obtain ⟨h1, h2⟩ := wipeD_some h
    obtain ⟨v, h3, h4⟩ := st.slo i d h1
    exact ⟨v, by rw [wipe_out h2]; exact h3, h4⟩⟩
theorem Sta.nox {ρ : Slo} {σ : L2.St} (st : Sta X.K nm fx ι S ρ σ H) : Sta X.K nm fx.nox ι S ρ σ H := ⟨st.rel, st.ext, st.len, st.slo⟩
/-- a target takes a thing -/
theorem tg_go {ρ ρ' : Slo} {σ : L2.St} {d : D} {v : V} {tg : List Nat} {pat : Bool} {Q : L2.St → Hp → Prop} (st : Sta X.K nm fx ι S ρ σ H) (r : Rep X.K nm ι H d v) (h : bindTg tg pat d ρ = some ρ')
    (k : ∀ σ', Sta X.K nm fx ι S ρ' σ' H → (∀ ws : List Nat, (∀ i ∈ tg, i ∈ ws) → wipe σ' ws = wipe σ ws) → Q σ' H) : gTg X.K tg pat v σ H Q := by
  cases pat with
  | false =>
    simp only [bindTg] at h
    split at h
    · rename_i i
      cases h
      exact k _ (st.set r) fun ws hm => wipe_set (hm i (by simp))
    · cases h
  | true =>
    cases d <;> first
      | (cases h; done)
      | skip
    case tup ds =>
      obtain ⟨a, xs, rfl, h1, h2⟩ := r
      have hl : ∀ (ds : List D) (tg : List Nat) (ρ : Slo), setAll tg ds ρ = some ρ' → ds.length = tg.length := by
        intro ds
        induction ds with
        | nil => intro tg ρ h; cases tg with
          | nil => rfl
          | cons _ _ => cases h
        | cons d ds ih => intro tg ρ h; cases tg with
          | nil => cases h
          | cons i is => simp [ih is _ h]
      exact ⟨a, xs, rfl, h1, by rw [h2.length]; exact hl ds tg ρ h, all_go st h2 h k⟩
/-- what a list comprehension asks -/
theorem lc_read {tgs : List Nat} {pat : Bool} {mi : It} {cond : Option Te} {melt : Ex} {own : List (Str × Nat)} {σ : L2.St} {Q : VK} (hown : ∀ i ∈ tgs, i ∈ own.map (·.2)) (h : tF X.K nm fx (evF C G (.lc own tgs pat mi cond melt)) σ H Q) :
    tLc (tI X.K nm fx (evI C G mi)) (gTg X.K tgs pat) (tT X.K nm fx.nox (evto C G cond)) (tE X.K nm fx.nox (ev C G melt)) (own.map (·.2)) σ H Q := by
  obtain ⟨ι, S, ρ, st, w⟩ := h
  simp only [evF] at w
  refine ⟨ι, S, ρ, st, w.bind.mono fun sv S1 w1 J ι1 H1 r1 e1 wk Dl hD => ?_⟩
  split at w1
  case isFalse => exact w1.elim
  rename_i hlim
  generalize hf : (fun (d : D) (S2 : Sto) => match bindTg tgs pat d (wipeD ρ (own.map Prod.snd)) with
        | some ρ1 => (evto C G cond ρ1 S2).bind fun k S3 => match k with
          | true => (ev C G melt ρ1 S3).bind fun x S4 => .ok (some x) S4
          | false => .ok none S3
        | none => .bad) = f at w1
  refine ⟨fun i m Hc => m = sv.ds.length - i ∧ i ≤ sv.ds.length ∧ ∃ ιc Sc done xs, Stb X.K nm ι1 S1 H1 sv.g ιc Sc Hc ∧ Hc Dl = some (.lst xs) ∧ Dl ∉ ιc ∧ Reps X.K nm ιc Hc done xs ∧ done.length ≤ i ∧
    Wg (lcL sv.g f (sv.ds.drop i) Sc) (fun ds S' => ∀ p xs ι' H', Rel X.K nm ι' S' H' → Ex' ι H ι' H' → H p = none → H' p = some (.lst xs) → p ∉ ι' → Reps X.K nm ι' H' (done ++ ds) xs → Q (.ref p) H') fx.XW, ?_, ?_⟩
  · obtain ⟨r2, e2⟩ := r1.side (o := .lst []) hD
    exact ⟨_, rfl, Nat.zero_le _, ι1, S1, [], [], ⟨r2, e2, fun _ _ => rfl⟩, upd_same, r1.free hD, rfl, Nat.le_refl _, by simpa using w1⟩
  · rintro i m Hc ⟨rfl, hi, ιc, Sc, done, xs, sb, hxs, hni, hrd, hdl, wl⟩
    by_cases hlt : i < sv.ds.length
    · refine .inr ⟨wk.goes i ιc Sc Hc sb hlt, _, fun H' n => ⟨sv.ds.length - (i + 1), by omega, n⟩, fun x H' y => ?_⟩
      · obtain ⟨d, hd, r3, e3, p3⟩ := wk.yields i ιc Sc Hc x H' sb hlt y
        have hdrop : sv.ds.drop i = d :: sv.ds.drop (i + 1) := by
          rw [List.drop_eq_getElem_cons hlt]
          rw [List.getElem?_eq_getElem hlt] at hd
          rw [Option.some.inj hd]
        rw [hdrop] at wl
        simp only [lcL] at wl
        have w3 := wl.bind.ofNox
        have hfd : f d Sc = (match bindTg tgs pat d (wipeD ρ (own.map Prod.snd)) with
          | some ρ1 => (evto C G cond ρ1 Sc).bind fun k S3 => match k with
            | true => (ev C G melt ρ1 S3).bind fun x S4 => .ok (some x) S4
            | false => .ok none S3
          | none => .bad) := by rw [← hf]
        rw [hfd] at w3
        cases hb : bindTg tgs pat d (wipeD ρ (own.map Prod.snd)) with
        | none => rw [hb] at w3; exact w3.elim
        | some ρ1 =>
          rw [hb] at w3
          simp only at w3
          have st3 : Sta X.K nm fx.nox ιc Sc (wipeD ρ (own.map Prod.snd)) (wipe σ (own.map (·.2))) H' := (((st.on r1 e1).on r3 (sb.2.1.trans e3)).wipe _).nox
          have hx1 : H' Dl = some (.lst xs) ∧ Dl ∉ ιc := e3.keep Dl _ hxs hni
          refine tg_go st3 p3 hb fun σ' st4 hw => ⟨?_, ?_⟩
          · rw [hw _ hown, wipe_idem]
          · refine ⟨ιc, Sc, ρ1, st4, w3.bind.mono fun k S4 w4 ι4 H4 r4 e4 => ?_⟩
            have base4 : Ex' ι1 H1 ι4 H4 := (sb.2.1.trans e3).trans e4
            obtain ⟨hx4, hn4⟩ := e4.keep Dl _ hx1.1 hx1.2
            cases k with
            | false =>
              show (if false = true then _ else _)
              rw [if_neg Bool.false_ne_true]
              obtain ⟨hg, w5⟩ := grd_some w4
              have w5 := w5.bind
              refine ⟨rfl, hlt, ι4, S4, done, xs, ⟨r4, base4, fun j hj => (hg j hj).trans (sb.2.2 j hj)⟩, hx4, hn4, hrd.mono sb.1 (e3.trans e4), by omega, w5.mono fun ds S' q => q⟩
            | true =>
              show (if true = true then _ else _)
              rw [if_pos rfl]
              refine ⟨ι4, S4, ρ1, st4.on r4 e4, w4.bind.mono fun y S5 w5 v ι5 H5 r5 e5 p5 => ?_⟩
              obtain ⟨hx5, hn5⟩ := e5.keep Dl _ hx4 hn4
              obtain ⟨hg, w6⟩ := grd_some w5
              have w6 := w6.bind
              have hl : xs.length < sizeLine := by
                rw [hrd.length]
                exact Nat.lt_of_lt_of_le (Nat.lt_of_le_of_lt hdl hlt) (lim_le hlim)
              obtain ⟨r6, mo⟩ := r5.sidePut (ys := xs ++ [v]) hx5 hn5
              have rd5 : Reps X.K nm ι5 H5 (done ++ [y]) (xs ++ [v]) := (hrd.mono sb.1 ((e3.trans e4).trans e5)).append ⟨v, [], rfl, p5, rfl⟩
              have base6 : Ex' ι1 H1 ι5 (upd H5 Dl (.lst (xs ++ [v]))) := by
                have b5 := base4.trans e5
                refine ⟨b5.pre, fun b o hb2 hn => ?_⟩
                obtain ⟨z1, z2⟩ := b5.keep b o hb2 hn
                refine ⟨?_, z2⟩
                rw [upd_ne (ne_of_none hb2 hD)]
                exact z1
              refine ⟨xs, hx5, hl, rfl, hlt, ι5, S5, done ++ [y], xs ++ [v], ⟨r6, base6, fun j hj => (hg j hj).trans (sb.2.2 j hj)⟩, upd_same, hn5, mo rd5, by simp; omega, w6.mono fun ds S' q => ?_⟩
              intro p zs ι' H' a1 a2 a3 a4 a5 a6
              refine q p zs ι' H' a1 a2 a3 a4 a5 ?_
              simpa using a6
    · have e : i = sv.ds.length := by omega
      subst e
      refine .inl ⟨wk.stops ιc Sc Hc sb, ?_⟩
      rw [List.drop_length] at wl
      have wl' : ∀ p xs ι' H', Rel X.K nm ι' Sc H' → Ex' ι H ι' H' → H p = none → H' p = some (.lst xs) → p ∉ ι' → Reps X.K nm ι' H' (done ++ []) xs → Q (.ref p) H' := wl
      refine wl' Dl xs ιc Hc sb.1 (e1.trans sb.2.1) (none_of e1 hD (r1.free hD)) hxs hni ?_
      rw [List.append_nil]
      exact hrd
theorem sf_lc (g : Gd X nm nms C G fl fx) {elt tg iter : Expr} {ifs : List Expr} {scope : Scope} {own : List (Str × Nat)} {pos : Pos} {mi : It} {tgs : List Nat} {pat : Bool} {cond : Option Te} {melt : Ex}
    (hi : PI X tg iter (tI X.K nm fx (evI C G mi))) (ok : BlkOk X.N X.env.scope scope own)
    (hg : ∀ (s : Shared) (H : Hp) (c : Addr) (cl : List (Str × Addr)) (fp : List Addr), PG (X.blk s H scope (compEnvC scope cl c X.env) fp) tg (gTg X.K tgs pat))
    (ht : ∀ (s : Shared) (H : Hp) (c : Addr) (cl : List (Str × Addr)) (fp : List Addr), PTs (X.blk s H scope (compEnvC scope cl c X.env) fp) ifs (tT X.K nm fx.nox (evto C G cond)))
    (he : ∀ (s : Shared) (H : Hp) (c : Addr) (cl : List (Str × Addr)) (fp : List Addr), PE (X.blk s H scope (compEnvC scope cl c X.env) fp) elt (tE X.K nm fx.nox (ev C G melt)))
    (hown : ∀ i ∈ tgs, i ∈ own.map (·.2)) (hs : ∀ x, foldedSetIterable iter X.env x = pure x) : PE X (.ListComp elt [⟨tg, iter, ifs, 0⟩] scope pos) (tF X.K nm fx (evF C G (.lc own tgs pat mi cond melt))) :=
  PEimp (pe_lc g.calm g.nd hi ok hg ht he hs) fun _ _ _ h => lc_read hown h
/-! ### xs.append(e) -/
theorem tyV_lst {K : PySem.W.Frag} {a : Addr} {xs : List V} (h : H a = some (.lst xs)) : tyV K "list" (.ref a) H := .inl ⟨rfl, xs, SqL.of h⟩
theorem se_app {o e : Expr} {mo m : Ex} {apos pos : Pos} (ho : PE X o (tE X.K nm fx (ev C G mo))) (h : PE X e (tE X.K nm fx (ev C G m))) (hs : starEach [e] X.env = (false, eval e X.env) :: starEach [] X.env) (hbase : attributeBase o "append" X.env (eval o X.env) = eval o X.env) (hline : (apos.endLine == pos.line) = true) :
    PE X (.Call (.Attribute o "append" apos) [e] [] pos) (tE X.K nm fx (ev C G (.app mo m))) := by
  refine PEimp (pe_bm PySem.F.plainAttrs_list PySem.F.slot_list_append PySem.F.type_list_append mt_append ho (pa_cons h pa_nil hs) hbase (by rw [hs] <;> rfl) hline hs rfl) fun σ H Q h => ?_
  obtain ⟨ι, S, ρ, st, w⟩ := h
  simp only [ev] at w
  refine ⟨ι, S, ρ, st, w.bind.mono fun d S1 w1 v ι1 H1 r1 e1 p1 => ?_⟩
  cases d <;> first
    | exact False.elim w1
    | skip
  case ref n =>
  simp only at w1
  split at w1
  · rename_i us hus
    obtain ⟨a, xs, rfl, hn, h1, h2⟩ := r1.ref hus p1
    refine ⟨tyV_lst h1, ι1, S1, ρ, st.on r1 e1, w1.bind.mono fun d S2 w2 dv ι2 H2 r2 e2 p2 => ?_⟩
    split at w2
    · rename_i ds hds
      split at w2
      · rename_i hl
        obtain ⟨b, ys, hb, h3, h4⟩ := r2.lst hds
        rw [e2.at_ hn] at hb
        cases hb
        obtain ⟨r3, e3⟩ := r2.put (ys := ys ++ [dv]) (es := ds ++ [d]) (xs := ys) (e2.at_ hn) hds (h4.append ⟨dv, [], rfl, p2, rfl⟩)
        refine ⟨a, ys, dv, rfl, rfl, h3, ?_, w2 _ ι2 _ r3 ((e1.trans e2).trans e3) rfl⟩
        rw [h4.length]
        exact Nat.lt_of_lt_of_le hl (by decide)
      · exact w2.elim
    · exact w2.elim
  · exact w1.elim
/-! ### a list's other methods -/
def LM.nam : LM → Str
  | .insert => "insert" | .pop => "pop" | .popAt => "pop" | .reverse => "reverse" | .clear => "clear" | .extend => "extend"
def rInsert : V → List V → Hp → VK → Prop := fun x vs H Q => ∃ (l : Addr) (xs : List V) (i : Int) (y : V), x = .ref l ∧ vs = [.int i, y] ∧ H l = some (.lst xs) ∧ xs.length < sizeLine ∧ 0 ≤ i ∧ i < 2 ^ 63 ∧
    Q .non (upd H l (.lst (xs.take i.toNat ++ [y] ++ xs.drop i.toNat)))
def rLM : LM → V → List V → Hp → VK → Prop
  | .insert => rInsert | .pop => rPop | .popAt => rPopAt | .reverse => rReverse | .clear => rClear | .extend => rExtend
theorem Reps.one {K : PySem.W.Frag} {ι : List Addr} {H : Hp} {d : D} {v : V} (r : Rep K nm ι H d v) : Reps K nm ι H [d] [v] := ⟨v, [], rfl, r, rfl⟩
theorem Reps.rev {K : PySem.W.Frag} {ι : List Addr} {H : Hp} {ds : List D} {xs : List V} (r : Reps K nm ι H ds xs) : Reps K nm ι H ds.reverse xs.reverse := by
  induction ds generalizing xs with
  | nil => cases r; exact rfl
  | cons d ds ih =>
    obtain ⟨v, w, rfl, h1, h2⟩ := r
    rw [List.reverse_cons, List.reverse_cons]
    exact (ih h2).append ⟨v, [], rfl, h1, rfl⟩
theorem Reps.erase {K : PySem.W.Frag} {ι : List Addr} {H : Hp} {ds : List D} {xs : List V} (k : Nat) (r : Reps K nm ι H ds xs) : Reps K nm ι H (ds.eraseIdx k) (xs.eraseIdx k) := by
  rw [List.eraseIdx_eq_take_drop_succ, List.eraseIdx_eq_take_drop_succ]
  exact (r.take k).append (r.drop (k + 1))
theorem lm_read {m : LM} {n : Nat} {a : Addr} {ds : List D} {vs : List V} {S2 : Sto} {ι2 : List Addr} {H2 : Hp} {Q : VK} {XW : Xc → Sto → Prop} (r2 : Rel X.K nm ι2 S2 H2) (hn : ι2[n]? = some a) (hv : Reps X.K nm ι2 H2 ds vs) (e2 : Ex' ι H ι2 H2)
    (w : Wg (lmV m n ds S2) (Wv X.K nm ι H Q) XW) : rLM m (.ref a) vs H2 Q := by
  unfold lmV at w
  split at w
  case h_2 => exact w.elim
  rename_i us hus
  obtain ⟨b, xs, hb, h3, h4⟩ := r2.lst hus
  rw [hn] at hb
  cases hb
  have hl := h4.length
  have lm0 : lim ≤ sizeLine := by decide
  have lm1 : lim < sizeLine := by decide
  split at w
  · split at w
    · rename_i i d hc
      obtain ⟨v1, r1, rfl, p1, q1⟩ := hv
      obtain ⟨v2, r2', rfl, p2, q2⟩ := q1
      cases q2
      cases p1
      obtain ⟨r3, e3⟩ := r2.put (ys := xs.take i.toNat ++ [v2] ++ xs.drop i.toNat) (es := us.take i.toNat ++ [d] ++ us.drop i.toNat) (xs := xs) hn hus (((h4.take _).append (Reps.one p2)).append (h4.drop _))
      exact ⟨a, xs, i, v2, rfl, rfl, h3, by rw [hl]; omega, hc.2.1, hc.2.2, w _ ι2 _ r3 (e2.trans e3) rfl⟩
    · exact w.elim
  · split at w
    · rename_i d hd
      cases hv
      rw [← hl] at hd
      obtain ⟨v, q1, q2⟩ := h4.get hd
      obtain ⟨r3, e3⟩ := r2.put (ys := xs.dropLast) (es := us.dropLast) (xs := xs) hn hus (by
        rw [List.dropLast_eq_take, List.dropLast_eq_take, hl]
        exact h4.take _)
      exact ⟨a, xs, v, rfl, rfl, h3, q1, w v ι2 _ r3 (e2.trans e3) (q2.mono r2 e3)⟩
    · exact w.elim
  · split at w
    · rename_i i hc
      split at w
      · rename_i k hk
        split at w
        · rename_i d hd
          obtain ⟨v1, r1, rfl, p1, q1⟩ := hv
          cases q1
          cases p1
          obtain ⟨v, q1, q2⟩ := h4.get hd
          obtain ⟨r3, e3⟩ := r2.put (ys := xs.eraseIdx k) (es := us.eraseIdx k) (xs := xs) hn hus (h4.erase k)
          exact ⟨a, xs, i, k, v, rfl, rfl, h3, hc.1, hc.2, by rw [hl]; exact hk, q1, w v ι2 _ r3 (e2.trans e3) (q2.mono r2 e3)⟩
        · exact w.elim
      · exact w.elim
    · exact w.elim
  · cases hv
    obtain ⟨r3, e3⟩ := r2.put (ys := xs.reverse) (es := us.reverse) (xs := xs) hn hus h4.rev
    exact ⟨a, xs, rfl, rfl, h3, w _ ι2 _ r3 (e2.trans e3) rfl⟩
  · cases hv
    obtain ⟨r3, e3⟩ := r2.put (ys := []) (es := []) (xs := xs) hn hus rfl
    exact ⟨a, xs, rfl, rfl, h3, w _ ι2 _ r3 (e2.trans e3) rfl⟩
  · split at w
    · rename_i m' ys hys
      split at w
      · rename_i hc
        obtain ⟨v1, r1, rfl, p1, q1⟩ := hv
        cases q1
        obtain ⟨b, zs, rfl, hb1, hb2, hb3⟩ := r2.ref hys p1
        obtain ⟨r3, e3⟩ := r2.put (ys := xs ++ zs) (es := us ++ ys) (xs := xs) hn hus (h4.append hb3)
        exact ⟨a, b, xs, zs, rfl, rfl, h3, hb2, by rw [hl, hb3.length]; omega, w _ ι2 _ r3 (e2.trans e3) rfl⟩
      · exact w.elim
    · exact w.elim
  · exact w.elim
theorem lm_arg {o e : Expr} {es : List Expr} {mo : Ex} {ms : List Ex} {id : String} {m : LM} {apos pos : Pos} (slot : Slot "list" m.nam id) (ty : typeOf (.builtin id) = pure (.type "method_descriptor")) (mt : MtR X id (rLM m)) (ho : PE X o (tE X.K nm fx (ev C G mo))) (h : PA X (e :: es) (tA X.K nm fx (evs C G ms))) (hs : starEach (e :: es) X.env = (false, eval e X.env) :: starEach es X.env)
    (hpl : (backTo pos (starEach es X.env)).any (·.1) = false) (hfew : ((backTo pos (starEach (e :: es) X.env)).all (fun x => !x.1) && (backToKw pos (keywordEach [] X.env)).all (fun x => x.1.isSome)
      && decide ((e :: es).length + ([] : List Keyword).length + (if ([] : List Keyword).isEmpty then 0 else 1) < 30)) = true) (hbase : attributeBase o m.nam X.env (eval o X.env) = eval o X.env) (hline : (apos.endLine == pos.line) = true) :
    PE X (.Call (.Attribute o m.nam apos) (e :: es) [] pos) (tE X.K nm fx (ev C G (.lm m mo ms))) := by
  refine PEimp (pe_bm PySem.F.plainAttrs_list slot ty mt ho h hbase hfew hline hs hpl) fun σ H Q h => ?_
  obtain ⟨ι, S, ρ, st, w⟩ := h
  simp only [ev] at w
  refine ⟨ι, S, ρ, st, w.bind.mono fun d S1 w1 v ι1 H1 r1 e1 p1 => ?_⟩
  cases d <;> first
    | exact False.elim w1
    | skip
  case ref n =>
  simp only at w1
  split at w1
  · rename_i us hus
    obtain ⟨a, xs, rfl, hn, h1, h2⟩ := r1.ref hus p1
    refine ⟨tyV_lst h1, ι1, S1, ρ, st.on r1 e1, w1.bind.mono fun ds S2 w2 vs ι2 H2 r2 e2 p2 => ?_⟩
    exact lm_read r2 (e2.at_ hn) p2 (e1.trans e2) w2
  · exact w1.elim
theorem lm_arg0 {o : Expr} {mo : Ex} {id : String} {m : LM} {apos pos : Pos} (slot : Slot "list" m.nam id) (ty : typeOf (.builtin id) = pure (.type "method_descriptor")) (mt : MtR X id (rLM m)) (ho : PE X o (tE X.K nm fx (ev C G mo))) (hbase : attributeBase o m.nam X.env (eval o X.env) = eval o X.env) (hline : (apos.endLine == pos.line) = true) :
    PE X (.Call (.Attribute o m.nam apos) [] [] pos) (tE X.K nm fx (ev C G (.lm m mo []))) := by
  refine PEimp (pe_bm0 PySem.F.plainAttrs_list slot ty mt ho hbase hline) fun σ H Q h => ?_
  obtain ⟨ι, S, ρ, st, w⟩ := h
  simp only [ev, evs, R.bind_ok] at w
  refine ⟨ι, S, ρ, st, w.bind.mono fun d S1 w1 v ι1 H1 r1 e1 p1 => ?_⟩
  cases d <;> first
    | exact False.elim w1
    | skip
  case ref n =>
  simp only at w1
  split at w1
  · rename_i us hus
    obtain ⟨a, xs, rfl, hn, h1, h2⟩ := r1.ref hus p1
    exact ⟨tyV_lst h1, lm_read (ds := []) (vs := []) r1 hn rfl e1 w1⟩
  · exact w1.elim
/-- the methods with arguments, and those without -/
def LM.arg : LM → Bool
  | .insert => true | .popAt => true | .extend => true | _ => false
theorem se_lm {o : Expr} {es : List Expr} {mo : Ex} {ms : List Ex} {m : LM} {apos pos : Pos} (ho : PE X o (tE X.K nm fx (ev C G mo))) (h : PA X es (tA X.K nm fx (evs C G ms))) (hm : m.arg = !es.isEmpty) (hn : es = [] → ms = []) (hs : ∀ e r, es = e :: r → starEach (e :: r) X.env = (false, eval e X.env) :: starEach r X.env ∧ (backTo pos (starEach r X.env)).any (·.1) = false ∧ ((backTo pos (starEach (e :: r) X.env)).all (fun x => !x.1) && (backToKw pos (keywordEach [] X.env)).all (fun x => x.1.isSome)
      && decide ((e :: r).length + ([] : List Keyword).length + (if ([] : List Keyword).isEmpty then 0 else 1) < 30)) = true) (hbase : attributeBase o m.nam X.env (eval o X.env) = eval o X.env) (hline : (apos.endLine == pos.line) = true) :
    PE X (.Call (.Attribute o m.nam apos) es [] pos) (tE X.K nm fx (ev C G (.lm m mo ms))) := by
  cases es with
  | nil =>
    obtain rfl := hn rfl
    cases m <;> first
      | (cases hm; done)
      | skip
    · exact lm_arg0 (m := .pop) PySem.F.slot_list_pop PySem.F.type_list_pop mt_pop ho hbase hline
    · exact lm_arg0 (m := .reverse) PySem.F.slot_list_reverse PySem.F.type_list_reverse mt_reverse ho hbase hline
    · exact lm_arg0 (m := .clear) PySem.F.slot_list_clear PySem.F.type_list_clear mt_clear ho hbase hline
  | cons e r =>
    obtain ⟨s1, s2, s3⟩ := hs e r rfl
    cases m <;> first
      | (cases hm; done)
      | skip
    · exact lm_arg (m := .insert) PySem.F.slot_list_insert PySem.F.type_list_insert mt_insert ho h s1 s2 s3 hbase hline
    · exact lm_arg (m := .popAt) PySem.F.slot_list_pop PySem.F.type_list_pop mt_popAt ho h s1 s2 s3 hbase hline
    · exact lm_arg (m := .extend) PySem.F.slot_list_extend PySem.F.type_list_extend mt_extend ho h s1 s2 s3 hbase hline
/-! ### turned round; int -/
theorem se_rev {e : Expr} {m : Ex} {k : Nat} {p1 p2 p3 pos : Pos} (h : PE X e (tE X.K nm fx (ev C G m))) : PE X (.Subscript e (.Slice none none (some (.UnaryOp .USub (.Constant (.int 1) k p1) p2)) p3) pos) (tE X.K nm fx (ev C G (.rev m))) := by
  refine PEimp (pe_revL h) fun σ H Q h => ?_
  obtain ⟨ι, S, ρ, st, w⟩ := h
  simp only [ev] at w
  refine ⟨ι, S, ρ, st, w.bind.mono fun d S1 w1 v ι1 H1 r1 e1 p1 => ?_⟩
  cases d <;> first
    | exact False.elim w1
    | skip
  case fro ds =>
    obtain ⟨a, xs, rfl, h1, h2⟩ := p1
    refine ⟨a, xs, rfl, h1.l, fun p hp => ?_⟩
    obtain ⟨r2, e2⟩ := r1.new hp h2.rev
    exact w1 _ _ _ r2 (e1.trans e2) ⟨p, by rw [← r1.len]; simp, rfl⟩
  case ref n =>
    simp only [revV] at w1
    split at w1
    · rename_i ds hds
      obtain ⟨a, xs, rfl, _, h1, h2⟩ := r1.ref hds p1
      refine ⟨a, xs, rfl, SqL.of h1, fun p hp => ?_⟩
      obtain ⟨r2, e2⟩ := r1.new hp h2.rev
      exact w1 _ _ _ r2 (e1.trans e2) ⟨p, by rw [← r1.len]; simp, rfl⟩
    · exact w1.elim
theorem se_intb (g : Gd X nm nms C G fl fx) {e : Expr} {m : Ex} {p pos : Pos} (h : PE X e (tE X.K nm fx (ev C G m))) (hg : Gl X "int") (he : starEach [e] X.env = (false, eval e X.env) :: starEach [] X.env) : PE X (.Call (.Name "int" p) [e] [] pos) (tE X.K nm fx (ev C G (.intb m))) := by
  refine PEimp (pe_callTy call_int1 hg (g.blt _ (by simp [blts])) (by decide +kernel) (pa_one h he) (by decide) (by decide) he) fun σ H Q h => ?_
  obtain ⟨ι, S, ρ, st, w⟩ := h
  simp only [ev] at w
  refine ⟨ι, S, ρ, st, w.bind.mono fun d S1 w1 v ι1 H1 r1 e1 p1 => ?_⟩
  cases d <;> first
    | exact False.elim w1
    | skip
  case bl b => cases p1; exact .inr ⟨b, rfl, w1 _ ι1 H1 r1 e1 rfl⟩
  case int i => cases p1; exact .inl ⟨i, rfl, w1 _ ι1 H1 r1 e1 rfl⟩
theorem se_no {e : Expr} : PE X e (tE X.K nm fx (ev C G .no)) := ⟨fun pins s σ H Q I h => by
  obtain ⟨ι, S, ρ, st, w⟩ := h
  simp only [ev] at w
  exact w.elim⟩
/-! ### statements -/
end
section
variable (K : PySem.W.Frag) (nm : Nat → Addr)
def Wo (fx : Fx) (ι : List Addr) (H : Hp) (Dn : Ends) : O → Prop
  | .next ρ S => ∀ σ ι' H', Sta K nm fx ι' S ρ σ H' → Ex' ι H ι' H' → Dn.nx σ H'
  | .brk ρ S => ∀ σ ι' H', Sta K nm fx ι' S ρ σ H' → Ex' ι H ι' H' → Dn.bk σ H'
  | .cont ρ S => ∀ σ ι' H', Sta K nm fx ι' S ρ σ H' → Ex' ι H ι' H' → Dn.ct σ H'
  | .ret d S => Wv K nm ι H Dn.rt d S
  | .exc x S => fx.XW x S
  | .bad => False
def tS (fx : Fx) (m : Slo → Sto → O) : TS := fun Dn σ H => ∃ ι S ρ, Sta K nm fx ι S ρ σ H ∧ Wo K nm fx ι H Dn (m ρ S)
end
section
variable {X : Cx} {nm : Nat → Addr} {nms : Nat → Str} {C : Nat → List D → Sto → R D} {G : Nat → Option D} {fl : Fl} {fx : Fx} {ι : List Addr} {S : Sto} {H : Hp}
theorem PSimp {st : Stmt} {t t' : TS} (h : PS X st t) (i : ∀ D σ H, t' D σ H → t D σ H) : PS X st t' := ⟨fun pins s σ H D I q => h.run pins s σ H D I (i _ _ _ q)⟩
theorem PSsimp {st : List Stmt} {t t' : TS} (h : PSs X st t) (i : ∀ D σ H, t' D σ H → t D σ H) : PSs X st t' := ⟨fun pins s σ H D I q => h.run pins s σ H D I (i _ _ _ q)⟩
theorem Wo.on {K : PySem.W.Frag} {ι1 : List Addr} {H1 : Hp} {Dn : Ends} {o : O} (e : Ex' ι H ι1 H1) (w : Wo K nm fx ι H Dn o) : Wo K nm fx ι1 H1 Dn o := by
  cases o with
  | next ρ S => exact fun σ ι' H' st e2 => w σ ι' H' st (e.trans e2)
  | brk ρ S => exact fun σ ι' H' st e2 => w σ ι' H' st (e.trans e2)
  | cont ρ S => exact fun σ ι' H' st e2 => w σ ι' H' st (e.trans e2)
  | ret d S => exact Wv.on e w
  | exc x S => exact w
  | bad => exact w
/-- an expression, then what follows -/
theorem Wo.o {K : PySem.W.Frag} {Dn : Ends} {α : Type} {r : R α} {f : α → Sto → O} (w : Wo K nm fx ι H Dn (r.o f)) : Wg r (fun a S => Wo K nm fx ι H Dn (f a S)) fx.XW := by
  cases r <;> exact w
theorem sss_nil : PSs X [] (tS X.K nm fx (exs C G [])) := by
  refine PSsimp pss_nil fun D σ H h => ?_
  obtain ⟨ι, S, ρ, st, w⟩ := h
  exact w σ ι H st .refl
theorem sss_cons {s : Stmt} {r : List Stmt} {m : Sm} {ms : List Sm} (h1 : PS X s (tS X.K nm fx (ex C G m))) (h2 : PSs X r (tS X.K nm fx (exs C G ms))) : PSs X (s :: r) (tS X.K nm fx (exs C G (m :: ms))) := by
  refine PSsimp (pss_cons h1 h2) fun D σ H h => ?_
  obtain ⟨ι, S, ρ, st, w⟩ := h
  simp only [exs] at w
  refine ⟨ι, S, ρ, st, ?_⟩
  cases q : ex C G m ρ S with
  | next ρ1 S1 =>
    rw [q] at w
    exact fun σ' ι' H' st' e' => ⟨ι', S1, ρ1, st', Wo.on e' w⟩
  | brk ρ1 S1 => rw [q] at w; exact w
  | cont ρ1 S1 => rw [q] at w; exact w
  | ret d S1 => rw [q] at w; exact w
  | exc x S1 => rw [q] at w; exact w
  | bad => rw [q] at w; exact w
theorem ss_asg (g : Gd X nm nms C G fl fx) {i : Nat} {x : Str} {e : Expr} {m : Ex} {pos pos' : Pos} (hi : X.N[i]? = some x) (hx : Loc X.env.scope x) (hf : X.fn x = true ∨ X.env.scope.names.lookup x = some .local) (h : PE X e (tE X.K nm fx (ev C G m)))
    (hs : swapsWith e (some (.Name x pos')) pos.line X.env = pure false) : PS X (.Assign [.Name x pos'] e pos) (tS X.K nm fx (ex C G (.asg i m))) := by
  refine PSimp (ps_set g.nd hi hx h hs hf) fun D σ H h => ?_
  obtain ⟨ι, S, ρ, st, w⟩ := h
  simp only [ex] at w
  exact ⟨ι, S, ρ, st, w.o.mono fun d S1 w1 v ι1 H1 r1 e1 p1 => w1 _ ι1 H1 ((st.on r1 e1).set p1) e1⟩
theorem ss_asgLc (g : Gd X nm nms C G fl fx) {i : Nat} {y : Str} {py : Pos} {elt tg iter : Expr} {ifs : List Expr} {scope : Scope} {own : List (Str × Nat)} {pos spos : Pos} {mi : It} {tgs : List Nat} {pat : Bool} {cond : Option Te} {melt : Ex}
    (hy : X.N[i]? = some y) (hyl : X.env.scope.names.lookup y = some .local) (hsw : swapsWith (.ListComp elt [⟨tg, iter, ifs, 0⟩] scope pos) (some (.Name y py)) spos.line X.env = pure true)
    (hi : PI X tg iter (tI X.K nm fx (evI C G mi))) (ok : BlkOk X.N X.env.scope scope own)
    (hg : ∀ (s : Shared) (H : Hp) (c : Addr) (cl : List (Str × Addr)) (fp : List Addr), PG (X.blk s H scope (compEnvC scope cl c X.env) fp) tg (gTg X.K tgs pat))
    (ht : ∀ (s : Shared) (H : Hp) (c : Addr) (cl : List (Str × Addr)) (fp : List Addr), PTs (X.blk s H scope (compEnvC scope cl c X.env) fp) ifs (tT X.K nm fx.nox (evto C G cond)))
    (he : ∀ (s : Shared) (H : Hp) (c : Addr) (cl : List (Str × Addr)) (fp : List Addr), PE (X.blk s H scope (compEnvC scope cl c X.env) fp) elt (tE X.K nm fx.nox (ev C G melt)))
    (hown : ∀ i ∈ tgs, i ∈ own.map (·.2)) (hs : ∀ x, foldedSetIterable iter X.env x = pure x) : PS X (.Assign [.Name y py] (.ListComp elt [⟨tg, iter, ifs, 0⟩] scope pos) spos) (tS X.K nm fx (ex C G (.asg i (.new (.lc own tgs pat mi cond melt))))) := by
  refine PSimp (ps_setLc g.calm g.nd hy hyl hsw hi ok hg ht he hs) fun D σ H h => ?_
  obtain ⟨ι, S, ρ, st, w⟩ := h
  simp only [ex, ev] at w
  refine lc_read hown ⟨ι, S, ρ, st, w.o.bind.mono fun ds S1 w1 p xs ι1 H1 r1 e1 n1 h1 i1 p1 => ?_⟩
  obtain ⟨r2, e2⟩ := r1.take h1 i1 p1 H ι e1 n1
  exact w1 _ _ H1 ((st.on r2 e2).set ⟨p, by rw [← r1.len]; simp, rfl⟩) e2
theorem ss_asgT (g : Gd X nm nms C G fl fx) {is : List Nat} {tg e : Expr} {m : Ex} {pos : Pos} (h : PE X e (tE X.K nm fx (ev C G m))) (hg : PG X tg (gTg X.K is true)) (hs : swapsWithSole [tg] e pos.line X.env = pure false) (hw : swappedStores [tg] e X.env = pure none) (h1 : (assignEach [tg] X.env).map (·.2) = [assign tg X.env]) :
    PS X (.Assign [tg] e pos) (tS X.K nm fx (ex C G (.asgT is m))) := by
  refine PSimp (ps_asg h hg hs hw h1) fun D σ H h => ?_
  obtain ⟨ι, S, ρ, st, w⟩ := h
  simp only [ex] at w
  refine ⟨ι, S, ρ, st, w.o.mono fun d S1 w1 v ι1 H1 r1 e1 p1 => ?_⟩
  split at w1
  · rename_i ρ1 hb
    exact tg_go (st.on r1 e1) p1 hb fun σ' st' _ => w1 σ' ι1 H1 st' e1
  · exact w1.elim
theorem setI_go {K : PySem.W.Frag} {o i d : D} {x y v : V} {P : Unit → Sto → Prop} {XW : Xc → Sto → Prop} {Q : Hp → Prop} (r : Rel K nm ι S H) (po : Rep K nm ι H o x) (pi : Rep K nm ι H i y) (pd : Rep K nm ι H d v) (w : Wg (setIV o i d S) P XW)
    (k : ∀ S' H', P () S' → Rel K nm ι S' H' → Ex' ι H ι H' → Q H') : rSetL x y v H Q := by
  cases o <;> cases i <;> first
    | exact False.elim w
    | skip
  case ref.int n j =>
    simp only [setIV] at w
    cases pi
    split at w
    · rename_i ds hds
      obtain ⟨a, xs, rfl, hn, h1, h2⟩ := r.ref hds po
      split at w
      · rename_i q hq
        obtain ⟨r2, e2⟩ := r.put (ys := xs.set q v) (es := ds.set q d) (xs := xs) hn hds (h2.set q pd)
        exact ⟨a, xs, j, q, rfl, rfl, h1, by rw [h2.length]; exact hq, k _ _ w r2 e2⟩
      · exact w.elim
    · exact w.elim
theorem ss_setI {o i e : Expr} {mo mi m : Ex} {pos p2 : Pos} (h : PE X e (tE X.K nm fx (ev C G m))) (ho : PE X o (tE X.K nm fx (ev C G mo))) (hi : PE X i (tE X.K nm fx (ev C G mi)))
    (ha : ∀ v, assign (.Subscript o i p2) X.env v = (do
      let ov ← holding [v] (eval o X.env)
      let iv ← holding [v, ov] (eval i X.env)
      standAt p2
      holding [v, ov, iv] (setItem ov iv v)
      release [v, ov, iv] [])) (hs : swapsWithSole [.Subscript o i p2] e pos.line X.env = pure false) (hw : swappedStores [.Subscript o i p2] e X.env = pure none) (h1 : (assignEach [.Subscript o i p2] X.env).map (·.2) = [assign (.Subscript o i p2) X.env]) :
    PS X (.Assign [.Subscript o i p2] e pos) (tS X.K nm fx (ex C G (.setI mo mi m))) := by
  refine PSimp (ps_asg h (pg_sub ho hi set_list ha) hs hw h1) fun D σ H h => ?_
  obtain ⟨ι, S, ρ, st, w⟩ := h
  simp only [ex] at w
  refine ⟨ι, S, ρ, st, w.o.mono fun d S1 w1 v ι1 H1 r1 e1 p1 => ?_⟩
  refine ⟨ι1, S1, ρ, st.on r1 e1, w1.o.mono fun x S2 w2 xv ι2 H2 r2 e2 p2 => ?_⟩
  refine ⟨ι2, S2, ρ, (st.on r1 e1).on r2 e2, w2.o.mono fun y S3 w3 yv ι3 H3 r3 e3 p3 => ?_⟩
  exact setI_go r3 (p2.mono r2 e3) p3 (p1.mono r1 (e2.trans e3)) w3.o fun S' H' w4 r4 e4 => w4 σ ι3 H' ((((st.on r1 e1).on r2 e2).on r3 e3).on r4 e4) (((e1.trans e2).trans e3).trans e4)
theorem getI_list : PGet X (fun o i H Q => ∃ a xs k v, o = .ref a ∧ i = .int k ∧ 0 ≤ k ∧ SqL X.K H a xs ∧ xs[k.toNat]? = some v ∧ Q v H) := by
  intro pins s σ H o i ov iv Q I ro ri h
  obtain ⟨a, xs, k, v, rfl, rfl, hk, hs, hv, q⟩ := h
  cases ro
  obtain ⟨t, rfl⟩ := ri
  obtain ⟨its, rv, pl, hz⟩ := I.list hs
  obtain ⟨u, hu, ru⟩ := rv.get hv
  have hl : k.toNat < xs.length := (List.getElem?_eq_some_iff.mp hv).1
  have hz2 : xs.length ≤ 16777216 := by rw [← sizeLine_eq]; exact hz
  exact wpAny_getItem_list pl.isList hk (by omega) (by simpa using hu) ⟨v, H, I, ru, q⟩
def opA : BOp → Operator := BOp.op
def tipA (K : PySem.W.Frag) (nm : Nat → Addr) (op : BOp) : TIp := fun x y H Q => ∃ ι S d e, Rel K nm ι S H ∧ Rep K nm ι H d x ∧ Rep K nm ι H e y ∧ Wg (augV op d e S) (Wv K nm ι H Q) NoX
theorem pip_aug (op : BOp) : PIp X op.op (tipA X.K nm op) := by
  intro pins s σ H x y v u Q I rx ry h
  obtain ⟨ι, S, d, e, rel, hx, hy, w⟩ := h
  cases op <;> cases d <;> cases e <;> first
    | exact False.elim w
    | skip
  case add.int.int i j =>
    cases hx; cases hy
    exact iop_add pins s σ H _ _ v u Q I rx ry ⟨i, j, rfl, rfl, w _ ι H rel .refl rfl⟩
  case sub.int.int i j =>
    cases hx; cases hy
    exact iop_sub pins s σ H _ _ v u Q I rx ry ⟨i, j, rfl, rfl, w _ ι H rel .refl rfl⟩
  case add.str.str i j =>
    cases hx; cases hy
    simp only [augV] at w
    split at w
    · rename_i hl
      refine iop_add_str pins s σ H _ _ v u Q I rx ry ⟨strOf i, strOf j, rfl, rfl, ?_, w _ ι H rel .refl ?_⟩
      · rw [strOf_len, strOf_len]
        exact lim_le hl
      · rw [strOf_app]
        rfl
    · exact w.elim
theorem augV_nox (op : BOp) (a b : D) (S : Sto) (x : Xc) (S' : Sto) : augV op a b S ≠ .exc x S' := by
  unfold augV
  split <;> (repeat' split) <;> exact fun q => by cases q
theorem ss_aug (g : Gd X nm nms C G fl fx) {op : BOp} {i : Nat} {x : Str} {e : Expr} {m : Ex} {pos pos' : Pos} (hi : X.N[i]? = some x) (hx : Loc X.env.scope x) (hf : X.fn x = true ∨ X.env.scope.names.lookup x = some .local) (h : PE X e (tE X.K nm fx (ev C G m))) :
    PS X (.AugAssign (.Name x pos') op.op e pos) (tS X.K nm fx (ex C G (.aug op i m))) := by
  refine PSimp (ps_aug g.nd hi hx h (pip_aug (nm := nm) op) hf) fun D σ H h => ?_
  obtain ⟨ι, S, ρ, st, w⟩ := h
  simp only [ex] at w
  split at w
  · rename_i d hd
    obtain ⟨v, h1, h2⟩ := st.slo i d hd
    refine ⟨v, h1, ι, S, ρ, st, w.o.mono fun d2 S1 w1 v2 ι1 H1 r1 e1 p1 => ?_⟩
    refine ⟨ι1, S1, d, d2, r1, h2.mono st.rel e1, p1, (w1.o.nox' (augV_nox op d d2 S1)).mono fun u S2 w2 z ι2 H2 r2 e2 p2 => ?_⟩
    exact w2 _ ι2 H2 (((st.on r1 e1).on r2 e2).set p2) (e1.trans e2)
  · exact w.elim
theorem ss_augI {op : BOp} {o i e : Expr} {mo mi m : Ex} {pos p2 : Pos} (ho : PE X o (tE X.K nm fx (ev C G mo))) (hi : PE X i (tE X.K nm fx (ev C G mi))) (h : PE X e (tE X.K nm fx (ev C G m)))
    (ha : ∀ ov iv new, augStore i ov iv new = (do holding [new, ov, iv] (setItem ov iv new); release [new, ov, iv] []; pure .next)) : PS X (.AugAssign (.Subscript o i p2) op.op e pos) (tS X.K nm fx (ex C G (.augI op mo mi m))) := by
  refine PSimp (ps_augS ho hi getI_list h (pip_aug (nm := nm) op) set_list ha) fun D σ H h => ?_
  obtain ⟨ι, S, ρ, st, w⟩ := h
  simp only [ex] at w
  refine ⟨ι, S, ρ, st, w.o.mono fun x S1 w1 xv ι1 H1 r1 e1 p1 => ?_⟩
  refine ⟨ι1, S1, ρ, st.on r1 e1, w1.o.mono fun y S2 w2 yv ι2 H2 r2 e2 p2 => ?_⟩
  have st2 := (st.on r1 e1).on r2 e2
  replace w2 := w2.o
  cases x <;> cases y <;> first
    | exact False.elim w2
    | skip
  case ref.int n k =>
  cases p2
  simp only [getIV] at w2
  split at w2
  case h_2 => exact w2.elim
  rename_i ds hds
  split at w2
  case isFalse => exact w2.elim
  rename_i hk
  split at w2
  case h_2 => exact w2.elim
  rename_i z hz
  obtain ⟨a, xs, rfl, hn, h1, h2⟩ := r2.ref hds (p1.mono r1 e2)
  obtain ⟨zv, h3, h4⟩ := h2.get hz
  refine ⟨a, xs, k, zv, rfl, rfl, hk, SqL.of h1, h3, ?_⟩
  refine ⟨ι2, S2, ρ, st2, Wg.mono (Wo.o w2) fun d S4 w4 dv ι4 H4 r4 e4 p4 => ?_⟩
  refine ⟨ι4, S4, z, d, r4, h4.mono r2 e4, p4, (w4.o.nox' (augV_nox op z d S4)).mono fun u S5 w5 uv ι5 H5 r5 e5 p5 => ?_⟩
  exact setI_go (o := .ref n) (i := .int k) r5 ((p1.mono r1 e2).mono r2 (e4.trans e5)) rfl p5 w5.o fun S' H' w6 r6 e6 => w6 σ ι5 H' (((st2.on r4 e4).on r5 e5).on r6 e6) ((((e1.trans e2).trans e4).trans e5).trans e6)
theorem ss_expr {e : Expr} {m : Ex} {pos : Pos} (h : PE X e (tE X.K nm fx (ev C G m))) (hs : swapsWith e none pos.line X.env = pure false) : PS X (.Expr e pos) (tS X.K nm fx (ex C G (.expr m))) := by
  refine PSimp (ps_expr h hs) fun D σ H h => ?_
  obtain ⟨ι, S, ρ, st, w⟩ := h
  simp only [ex] at w
  exact ⟨ι, S, ρ, st, w.o.mono fun d S1 w1 v ι1 H1 r1 e1 p1 => w1 σ ι1 H1 (st.on r1 e1) e1⟩
theorem ss_if {c : Expr} {a b : List Stmt} {mc : Te} {ma mb : List Sm} {pos : Pos} (hc : PT X c (tT X.K nm fx (evT C G mc))) (ha : PSs X a (tS X.K nm fx (exs C G ma))) (hb : PSs X b (tS X.K nm fx (exs C G mb))) : PS X (.If c a b pos) (tS X.K nm fx (ex C G (.if_ mc ma mb))) := by
  refine PSimp (ps_if hc ha hb) fun D σ H h => ?_
  obtain ⟨ι, S, ρ, st, w⟩ := h
  simp only [ex] at w
  refine ⟨ι, S, ρ, st, w.o.mono fun k S1 w1 ι1 H1 r1 e1 => ?_⟩
  cases k with
  | true => exact ⟨ι1, S1, ρ, st.on r1 e1, Wo.on e1 w1⟩
  | false => exact ⟨ι1, S1, ρ, st.on r1 e1, Wo.on e1 w1⟩
theorem ss_ret {e : Expr} {m : Ex} {pos : Pos} (h : PE X e (tE X.K nm fx (ev C G m))) : PS X (.Return (some e) pos) (tS X.K nm fx (ex C G (.ret m))) := by
  refine PSimp (ps_ret h) fun D σ H h => ?_
  obtain ⟨ι, S, ρ, st, w⟩ := h
  simp only [ex] at w
  exact ⟨ι, S, ρ, st, w.o⟩
theorem ss_retN {pos : Pos} : PS X (.Return none pos) (tS X.K nm fx (ex C G .retN)) := by
  refine PSimp ps_retN fun D σ H h => ?_
  obtain ⟨ι, S, ρ, st, w⟩ := h
  exact w _ ι H st.rel .refl rfl
theorem ss_pass {pos : Pos} : PS X (.Pass pos) (tS X.K nm fx (ex C G .pass)) := by
  refine PSimp ps_pass fun D σ H h => ?_
  obtain ⟨ι, S, ρ, st, w⟩ := h
  exact w σ ι H st .refl
theorem ss_brk {pos : Pos} : PS X (.Break pos) (tS X.K nm fx (ex C G .brk)) := by
  refine PSimp ps_break fun D σ H h => ?_
  obtain ⟨ι, S, ρ, st, w⟩ := h
  exact w σ ι H st .refl
theorem ss_no {s : Stmt} : PS X s (tS X.K nm fx (ex C G .no)) := ⟨fun pins s' σ H D I h => by
  obtain ⟨ι, S, ρ, st, w⟩ := h
  exact w.elim⟩
theorem ss_cont {pos : Pos} : PS X (.Continue pos) (tS X.K nm fx (ex C G .cont)) := by
  refine PSimp ps_continue fun D σ H h => ?_
  obtain ⟨ι, S, ρ, st, w⟩ := h
  exact w σ ι H st .refl
theorem grdO_some {K : PySem.W.Frag} {g : List Nat} {S S' : Sto} {r : O} {Dn : Ends} (w : Wo K nm fx ι H Dn (grdO g S S' r)) : (∀ i ∈ g, S'[i]? = S[i]?) ∧ Wo K nm fx ι H Dn r := by
  unfold grdO at w
  split at w
  · exact ⟨by assumption, w⟩
  · exact w.elim
theorem ss_for (g : Gd X nm nms C G fl fx) {tg iter : Expr} {body : List Stmt} {tgs : List Nat} {pat : Bool} {mi : It} {mb : List Sm} {pos : Pos} (hp : PassesOwn (model X.prog X.w) X.A X.env X.xe) (hi : PI X tg iter (tI X.K nm fx (evI C G mi))) (hg : PG X tg (gTg X.K tgs pat)) (hb : PSs X body (tS X.K nm fx (exs C G mb)))
    (hs : ∀ x, foldedSetIterable iter X.env x = pure x) : PS X (.For tg iter body [] pos) (tS X.K nm fx (ex C G (.for_ tgs pat mi mb))) := by
  refine PSimp (ps_for hp g.calm hi hg hb hs) fun D σ H h => ?_
  obtain ⟨ι, S, ρ, st, w⟩ := h
  simp only [ex] at w
  refine ⟨ι, S, ρ, st, w.o.mono fun sv S1 w1 J ι1 H1 r1 e1 wk => ?_⟩
  refine ⟨fun i m σ' Hc => m = sv.ds.length - i ∧ i ≤ sv.ds.length ∧ ∃ ιc Sc ρc, Stb X.K nm ι1 S1 H1 sv.g ιc Sc Hc ∧ Sta X.K nm fx ιc Sc ρc σ' Hc ∧ Wo X.K nm fx ι H D (forL sv.g tgs pat (fun ρ S => exs C G mb ρ S) (sv.ds.drop i) ρc Sc),
    ⟨_, rfl, Nat.zero_le _, ι1, S1, ρ, Stb.refl r1, st.on r1 e1, by simpa using w1⟩, ?_⟩
  rintro i m σ' Hc ⟨rfl, hi, ιc, Sc, ρc, sb, stc, wl⟩
  by_cases hlt : i < sv.ds.length
  · refine .inr ⟨wk.goes i ιc Sc Hc sb hlt, _, fun σ2 H' n => ⟨sv.ds.length - (i + 1), by omega, n⟩, fun x H' y => ?_⟩
    obtain ⟨d, hd, r3, e3, p3⟩ := wk.yields i ιc Sc Hc x H' sb hlt y
    have hdrop : sv.ds.drop i = d :: sv.ds.drop (i + 1) := by
      rw [List.drop_eq_getElem_cons hlt]
      rw [List.getElem?_eq_getElem hlt] at hd
      rw [Option.some.inj hd]
    rw [hdrop] at wl
    simp only [forL] at wl
    split at wl
    · rename_i ρ1 hb1
      refine tg_go (stc.on r3 e3) p3 hb1 fun σ2 st2 _ => ⟨ιc, Sc, ρ1, st2, ?_⟩
      have bs : Ex' ι H ιc H' := (e1.trans sb.2.1).trans e3
      have go : ∀ (ρ2 : Slo) (S2 : Sto), Wo X.K nm fx ι H D (grdO sv.g Sc S2 (forL sv.g tgs pat (fun ρ S => exs C G mb ρ S) (sv.ds.drop (i + 1)) ρ2 S2)) → ∀ σ3 ι3 H3, Sta X.K nm fx ι3 S2 ρ2 σ3 H3 → Ex' ιc H' ι3 H3 →
          sv.ds.length - (i + 1) = sv.ds.length - (i + 1) ∧ i + 1 ≤ sv.ds.length ∧ ∃ ιc Sc ρc, Stb X.K nm ι1 S1 H1 sv.g ιc Sc H3 ∧ Sta X.K nm fx ιc Sc ρc σ3 H3 ∧ Wo X.K nm fx ι H D (forL sv.g tgs pat (fun ρ S => exs C G mb ρ S) (sv.ds.drop (i + 1)) ρc Sc) := by
        intro ρ2 S2 w2 σ3 ι3 H3 st3 e4
        obtain ⟨hgd, w3⟩ := grdO_some w2
        exact ⟨rfl, hlt, ι3, S2, ρ2, ⟨st3.rel, (sb.2.1.trans e3).trans e4, fun j hj => (hgd j hj).trans (sb.2.2 j hj)⟩, st3, w3⟩
      cases q : exs C G mb ρ1 Sc with
      | next ρ2 S2 => rw [q] at wl; exact fun σ3 ι3 H3 st3 e4 => go ρ2 S2 wl σ3 ι3 H3 st3 e4
      | cont ρ2 S2 => rw [q] at wl; exact fun σ3 ι3 H3 st3 e4 => go ρ2 S2 wl σ3 ι3 H3 st3 e4
      | brk ρ2 S2 => rw [q] at wl; exact fun σ3 ι3 H3 st3 e4 => wl σ3 ι3 H3 st3 (bs.trans e4)
      | ret d S2 => rw [q] at wl; exact Wv.on bs wl
      | exc x S2 => rw [q] at wl; exact wl
      | bad => rw [q] at wl; exact wl
    · exact wl.elim
  · have e : i = sv.ds.length := by omega
    subst e
    rw [List.drop_length] at wl
    exact .inl ⟨wk.stops ιc Sc Hc sb, wl σ' ιc Hc stc (e1.trans sb.2.1)⟩
theorem ss_while {c : Expr} {body : List Stmt} {mc : Te} {mb : List Sm} {pos : Pos} (hp : PassesOwn (model X.prog X.w) X.A X.env X.xe) (hc : PT X c (tT X.K nm fx (evT C G mc))) (hb : PSs X body (tS X.K nm fx (exs C G mb))) : PS X (.While c body [] pos) (tS X.K nm fx (ex C G (.while_ mc mb))) := by
  refine PSimp (ps_while hp hc hb) fun D σ H h => ?_
  obtain ⟨ι, S, ρ, st, w⟩ := h
  simp only [ex] at w
  refine ⟨fun m σ' Hc => ∃ ιc Sc ρc, Sta X.K nm fx ιc Sc ρc σ' Hc ∧ Ex' ι H ιc Hc ∧ Wo X.K nm fx ι H D (whl (fun ρ S => evT C G mc ρ S) (fun ρ S => exs C G mb ρ S) m ρc Sc), ⟨fuel, ι, S, ρ, st, .refl, w⟩, ?_⟩
  rintro m σ' Hc ⟨ιc, Sc, ρc, stc, ec, wl⟩
  cases m with
  | zero => exact wl.elim
  | succ m =>
    simp only [whl] at wl
    refine ⟨ιc, Sc, ρc, stc, wl.o.mono fun k S1 w1 ι1 H1 r1 e1 => ?_⟩
    cases k with
    | false =>
      show (if false = true then _ else _)
      rw [if_neg Bool.false_ne_true]
      exact w1 σ' ι1 H1 (stc.on r1 e1) (ec.trans e1)
    | true =>
      show (if true = true then _ else _)
      rw [if_pos rfl]
      refine ⟨_, fun σ2 H2 n => ⟨m, Nat.lt_succ_self m, n⟩, ι1, S1, ρc, stc.on r1 e1, ?_⟩
      have bs := ec.trans e1
      cases q : exs C G mb ρc S1 with
      | next ρ2 S2 => simp only [q] at w1; exact fun σ3 ι3 H3 st3 e4 => ⟨ι3, S2, ρ2, st3, bs.trans e4, w1⟩
      | cont ρ2 S2 => simp only [q] at w1; exact fun σ3 ι3 H3 st3 e4 => ⟨ι3, S2, ρ2, st3, bs.trans e4, w1⟩
      | brk ρ2 S2 => simp only [q] at w1; exact fun σ3 ι3 H3 st3 e4 => w1 σ3 ι3 H3 st3 (bs.trans e4)
      | ret d S2 => simp only [q] at w1; exact Wv.on bs w1
      | exc x S2 => simp only [q] at w1; exact w1
      | bad => simp only [q] at w1; exact w1
end
end Pl

set_option maxHeartbeats 4000000
/-! The check that a text is what one of Pl's trees says, and that it does then what the tree says. -/
namespace Pl
open PySem L2

structure Cc where
  N : List Str
  nms : Nat → Str
  fl : Fl
def visB (sc : Scope) (x : Str) : Bool := match sc.names.lookup x with
  | some .local => true | some .cell => true | some .free => true | _ => false
def gloB (sc : Scope) (x : Str) : Bool := match sc.names.lookup x with
  | some .globalImplicit => true | _ => false
def locB (sc : Scope) (x : Str) : Bool := match sc.names.lookup x with
  | some .local => true | some .cell => true | _ => false
def notB (x : Str) : Bool := !(x == ("__debug__" : Str)) && !(x == ("__classdict__" : Str))
def plnE : Expr → Bool
  | .Starred .. => false | _ => true
def plnX : Expr → Bool
  | .Slice .. => false | _ => true
def plnF : Expr → Bool
  | .Set .. => false | _ => true
def plnA : Expr → Bool
  | .Call (.Name ..) [] [] _ => false | _ => true
def plnC : Expr → Bool
  | .ListComp .. => false | .SetComp .. => false | .DictComp .. => false | _ => true
def plnT : Expr → Bool
  | .Tuple .. => false | .ListComp .. => false | .SetComp .. => false | .DictComp .. => false | _ => true
def plnI : Expr → Bool
  | .Name .. => true | .Call .. => true | .Subscript .. => true | .Constant .. => true | .Attribute .. => true | _ => false
theorem plnE_ok {e : Expr} {r : List Expr} {env : Env} (h : plnE e = true) : starEach (e :: r) env = (false, eval e env) :: starEach r env := by
  cases e <;> first | rfl | cases h
theorem plnX_ok {e : Expr} (h : plnX e = true) : PlainIx e := by
  cases e <;> first | (intro o i; rfl) | cases h
theorem plnF_ok {e : Expr} {env : Env} (h : plnF e = true) (x : Value) : foldedSetIterable e env x = pure x := by
  cases e <;> first | rfl | cases h
theorem plnA_ok {e : Expr} {a : Str} {env : Env} (h : plnA e = true) : attributeBase e a env (eval e env) = eval e env := by
  unfold attributeBase
  split
  · cases h
  · rfl
theorem plnC_ok {e : Expr} {t : Option Expr} {l : Nat} {env : Env} (h : plnC e = true) : swapsWith e t l env = pure false := by
  cases e <;> first | rfl | cases h
theorem plnI_ok {e : Expr} {env : Env} (h : plnI e = true) (whole : Sem Value) : isTrue e env whole = (do let v ← whole; standAt e.pos; holding [v] (truthy v)) := by
  cases e <;> first | rfl | cases h
theorem plnStar {es : List Expr} {env : Env} (pos : Pos) (h : es.all plnE = true) : (backTo pos (starEach es env)).any (·.1) = false := by
  induction es with
  | nil => rfl
  | cons e r ih =>
    simp only [List.all_cons, Bool.and_eq_true] at h
    rw [plnE_ok h.1]
    show (false || _) = false
    exact ih h.2
def ckGs (N : List Str) (ss : Scope) : List Nat → List Expr → Bool
  | [], es => es.isEmpty
  | i :: is, es => match es with
    | .Name x _ :: r => decide (N[i]? = some x) && locB ss x && ckGs N ss is r
    | _ => false
def ckG (N : List Str) (ss : Scope) (tg : List Nat) (pat : Bool) (e : Expr) : Bool := match pat with
  | false => match tg, e with
    | [i], .Name x _ => decide (N[i]? = some x) && locB ss x
    | _, _ => false
  | true => match e with
    | .Tuple es _ _ => ckGs N ss tg es
    | _ => false
def cstB (d : D) (e : Expr) : Bool := match d, e with
  | .int i, .Constant (.int j) _ _ => decide (i = j)
  | .str x, .Constant (.str y) _ _ => decide (strOf x = y)
  | .bl a, .Constant (.bool b) _ _ => a == b
  | .non, .Constant .none _ _ => true
  | _, _ => false
section
variable (c : Cc)
mutual
def ckE : Ex → Scope → Expr → Bool
  | .var i, sc, e => match e with
    | .Name x _ => decide (c.N[i]? = some x) && visB sc x && notB x
    | _ => false
  | .glo n, sc, e => match e with
    | .Name x _ => decide (x = c.nms n) && gloB sc x && notB x
    | _ => false
  | .cst d, _, e => cstB d e
  | .tup ms, sc, e => match e with
    | .Tuple es _ _ => ckEs ms sc es
    | _ => false
  | .bin op a b, sc, e => match e with
    | .BinOp x o y _ => decide (o = op.op) && ckE a sc x && ckE b sc y
    | _ => false
  | .neg a, sc, e => match e with
    | .UnaryOp .USub x _ => ckE a sc x
    | _ => false
  | .cmp op a b, sc, e => match e with
    | .Compare x [o] [y] _ => decide (o = op.op) && (!behindInMarks op.op y) && ckE a sc x && ckE b sc y
    | _ => false
  | .chn o1 o2 a b d, sc, e => match e with
    | .Compare x [p1, p2] [y, z] _ => decide (p1 = o1.op) && decide (p2 = o2.op) && (!lastMarks [o1.op, o2.op] [y, z]) && ckE a sc x && ckE b sc y && ckE d sc z
    | _ => false
  | .and_ a b, sc, e => match e with
    | .BoolOp .And (x :: y :: r) p => ckE a sc x && (match r with | [] => ckE b sc y | _ :: _ => ckE b sc (.BoolOp .And (y :: r) p))
    | _ => false
  | .or_ a b, sc, e => match e with
    | .BoolOp .Or (x :: y :: r) p => ckE a sc x && (match r with | [] => ckE b sc y | _ :: _ => ckE b sc (.BoolOp .Or (y :: r) p))
    | _ => false
  | .not_ a, sc, e => match e with
    | .UnaryOp .Not x _ => ckE a sc x
    | _ => false
  | .ifx t a b, sc, e => match e with
    | .IfExp x y z _ => ckT t sc x && ckE a sc y && ckE b sc z
    | _ => false
  | .idx a b, sc, e => match e with
    | .Subscript x y _ => plnX y && ckE a sc x && ckE b sc y
    | _ => false
  | .sli a lo hi, sc, e => match e with
    | .Subscript x (.Slice l h none _) _ => ckE a sc x && ckO lo sc l && ckO hi sc h
    | _ => false
  | .call f ms, sc, e => match e with
    | .Call (.Name x _) es [] _ => decide (x = c.nms f) && gloB sc x && notB x && c.fl.on f && ckEs ms sc es
    | _ => false
  | .callk f ms ks perm, sc, e => match e with
    | .Call (.Name x _) es kws _ => decide (x = c.nms f) && gloB sc x && notB x && c.fl.on f && c.fl.kw f ms.length (kws.filterMap fun k => k.arg) perm && decide ((kws.filterMap fun k => k.arg).length = ks.length) && ckEs ms sc es && ckKs ks sc kws
    | _ => false
  | .new q, sc, e => ckF q sc e
  | .len m, sc, e => match e with
    | .Call (.Name x _) [a] [] _ => decide (x = ("len" : Str)) && gloB sc x && plnE a && ckE m sc a
    | _ => false
  | .lenq q, sc, e => match e with
    | .Call (.Name x _) [a] [] _ => decide (x = ("len" : Str)) && gloB sc x && plnE a && ckQ q sc a
    | _ => false
  | .all_ q, sc, e => match e with
    | .Call (.Name x _) [a] [] _ => decide (x = ("all" : Str)) && gloB sc x && plnE a && ckQ q sc a
    | _ => false
  | .any_ q, sc, e => match e with
    | .Call (.Name x _) [a] [] _ => decide (x = ("any" : Str)) && gloB sc x && plnE a && ckQ q sc a
    | _ => false
  | .tupq q, sc, e => match e with
    | .Call (.Name x _) [a] [] _ => decide (x = ("tuple" : Str)) && gloB sc x && plnE a && ckQ q sc a
    | _ => false
  | .join s q, sc, e => match e with
    | .Call (.Attribute o x p) [a] [] pos => decide (x = ("join" : Str)) && plnE a && plnA o && (p.endLine == pos.line) && ckE s sc o && ckQ q sc a
    | _ => false
  | .find3 s t i, sc, e => match e with
    | .Call (.Attribute o x p) [a, b] [] pos => decide (x = ("find" : Str)) && plnE a && plnE b && plnA o && (p.endLine == pos.line) && ckE s sc o && ckE t sc a && ckE i sc b
    | _ => false
  | .part s t, sc, e => match e with
    | .Call (.Attribute o x p) [a] [] pos => decide (x = ("partition" : Str)) && plnE a && plnA o && (p.endLine == pos.line) && ckE s sc o && ckE t sc a
    | _ => false
  | .isi m t, sc, e => match e with
    | .Call (.Name x _) [a, .Name y _] [] _ => decide (x = ("isinstance" : Str)) && gloB sc x && plnE a && decide (y = (t.tn : Str)) && gloB sc y && ckE m sc a
    | _ => false
  | .isi2 m t u, sc, e => match e with
    | .Call (.Name x _) [a, .Tuple [.Name y _, .Name z _] _ _] [] _ => decide (x = ("isinstance" : Str)) && gloB sc x && plnE a && decide (y = (t.tn : Str)) && gloB sc y && decide (z = (u.tn : Str)) && gloB sc z && ckE m sc a
    | _ => false
  | .app o m, sc, e => match e with
    | .Call (.Attribute q x p) [a] [] pos => decide (x = ("append" : Str)) && plnE a && plnA q && (p.endLine == pos.line) && ckE o sc q && ckE m sc a
    | _ => false
  | .lm m o ms, sc, e => match e with
    | .Call (.Attribute q x p) es [] pos => decide (x = m.nam) && (m.arg == !es.isEmpty) && plnA q && (p.endLine == pos.line) && decide (es.length < 20) && ckE o sc q && ckEs ms sc es
    | _ => false
  | .rev m, sc, e => match e with
    | .Subscript x (.Slice none none (some (.UnaryOp .USub (.Constant (.int i) _ _) _)) _) _ => decide (i = 1) && ckE m sc x
    | _ => false
  | .intb m, sc, e => match e with
    | .Call (.Name x _) [a] [] _ => decide (x = ("int" : Str)) && gloB sc x && plnE a && ckE m sc a
    | _ => false
  | .no, _, _ => true
def ckEs : List Ex → Scope → List Expr → Bool
  | [], _, es => es.isEmpty
  | m :: ms, sc, es => match es with
    | e :: r => plnE e && ckE m sc e && ckEs ms sc r
    | [] => false
def ckKs : List Ex → Scope → List Keyword → Bool
  | [], _, es => es.isEmpty
  | m :: ms, sc, es => match es with
    | ⟨some _, e, _⟩ :: r => ckE m sc e && ckKs ms sc r
    | _ => false
def ckO : Option Ex → Scope → Option Expr → Bool
  | none, _, o => o.isNone
  | some m, sc, o => match o with
    | some e => ckE m sc e
    | none => false
def ckT : Te → Scope → Expr → Bool
  | .ex m, sc, e => plnI e && ckE m sc e
  | .cmp op a b, sc, e => match e with
    | .Compare x [o] [y] _ => decide (o = op.op) && (!behindInMarks op.op y) && ckE a sc x && ckE b sc y
    | _ => false
  | .chn o1 o2 a b d, sc, e => match e with
    | .Compare x [p1, p2] [y, z] _ => decide (p1 = o1.op) && decide (p2 = o2.op) && (!lastMarks [o1.op, o2.op] [y, z]) && ckE a sc x && ckE b sc y && ckE d sc z
    | _ => false
  | .and_ a b, sc, e => match e with
    | .BoolOp .And (x :: y :: r) p => ckT a sc x && (match r with | [] => ckT b sc y | _ :: _ => ckT b sc (.BoolOp .And (y :: r) p))
    | _ => false
  | .or_ a b, sc, e => match e with
    | .BoolOp .Or (x :: y :: r) p => ckT a sc x && (match r with | [] => ckT b sc y | _ :: _ => ckT b sc (.BoolOp .Or (y :: r) p))
    | _ => false
  | .not_ a, sc, e => match e with
    | .UnaryOp .Not x _ => ckT a sc x
    | _ => false
def ckTo : Option Te → Scope → List Expr → Bool
  | none, _, es => es.isEmpty
  | some m, sc, es => match es with
    | [e] => ckT m sc e
    | _ => false
def ckF : Fr → Scope → Expr → Bool
  | .lst ms, sc, e => match e with
    | .List es _ => ckEs ms sc es
    | _ => false
  | .lc own tg pat it cond elt, sc, e => match e with
    | .ListComp x [⟨t, i, ifs, a⟩] scope _ => decide (a = 0) && blkC c.N sc scope own && plnF i && ckG c.N scope tg pat t && (tg.all fun j => (own.map Prod.snd).contains j) && ckI it sc t i && ckTo cond (relS scope sc) ifs && ckE elt (relS scope sc) x
    | _ => false
  | .list q, sc, e => match e with
    | .Call (.Name x _) [a] [] _ => decide (x = ("list" : Str)) && gloB sc x && plnE a && ckQ q sc a
    | _ => false
  | .cut m lo hi, sc, e => match e with
    | .Subscript x (.Slice l h none _) _ => ckE m sc x && ckO lo sc l && ckO hi sc h
    | _ => false
def ckQ : Sq → Scope → Expr → Bool
  | .ex m, sc, e => ckE m sc e
  | .fr m, sc, e => ckF m sc e
def ckI : It → Scope → Expr → Expr → Bool
  | .sq q, sc, _, e => ckQ q sc e
  | .str m, sc, _, e => ckE m sc e
  | .rng m, sc, _, e => match e with
    | .Call (.Name x _) [a] [] _ => decide (x = ("range" : Str)) && gloB sc x && plnE a && ckE m sc a
    | _ => false
  | .rng2 m n, sc, _, e => match e with
    | .Call (.Name x _) [a, b] [] _ => decide (x = ("range" : Str)) && gloB sc x && plnE a && plnE b && ckE m sc a && ckE n sc b
    | _ => false
  | .zip p q, sc, t, e => match t, e with
    | .Tuple _ _ _, .Call (.Name x _) [a, b] [] _ => decide (x = ("zip" : Str)) && gloB sc x && plnE a && plnE b && ckQ p sc a && ckQ q sc b
    | _, _ => false
  | .enum q, sc, t, e => match t, e with
    | .Tuple _ _ _, .Call (.Name x _) [a] [] _ => decide (x = ("enumerate" : Str)) && gloB sc x && plnE a && ckQ q sc a
    | _, _ => false
end
end
section
variable {X : Cx} {nm : Nat → Addr} {c : Cc} {C : Nat → List D → Sto → R D} {G : Nat → Option D} {fx : Fx}
structure Cok (X : Cx) (c : Cc) (sc : Scope) : Prop where
  N : X.N = c.N
  se : X.env.scope = sc
  kd : sc.kind = .function
theorem visB_ok {sc : Scope} {x : Str} (h : visB sc x = true) : Vis sc x := by
  unfold visB at h
  split at h <;> first | cases h; done | skip
  · exact .inl (by assumption)
  · exact .inr (.inl (by assumption))
  · exact .inr (.inr (by assumption))
theorem locB_ok {sc : Scope} {x : Str} (h : locB sc x = true) : Loc sc x := by
  unfold locB at h
  split at h <;> first | cases h; done | skip
  · exact .inl (by assumption)
  · exact .inr (by assumption)
theorem gloB_ok {sc : Scope} {x : Str} (k : Cok X c sc) (h : gloB sc x = true) : Gl X x := by
  unfold gloB at h
  split at h <;> first | cases h; done | skip
  show X.env.scope.names.lookup x = _
  rw [k.se]
  assumption
theorem notB_ok {x : Str} (h : notB x = true) : (x == ("__debug__" : Str)) = false ∧ (x == ("__classdict__" : Str)) = false := by
  simpa [notB] using h
theorem cstB_ok {d : D} {e : Expr} (h : cstB d e = true) : PE X e (tE X.K nm fx (ev C G (.cst d))) := by
  unfold cstB at h
  split at h
  · simp only [decide_eq_true_eq] at h
    subst h
    exact se_cst pe_int fun ι H => rfl
  · simp only [decide_eq_true_eq] at h
    subst h
    exact se_cst pe_str fun ι H => rfl
  · simp only [beq_iff_eq] at h
    subst h
    exact se_cst pe_bl fun ι H => rfl
  · exact se_cst pe_non fun ι H => rfl
  · cases h
/-- where targets are stored -/
def StOk (X : Cx) (ss : Scope) : Prop := ∀ x, locB ss x = true → Loc X.env.scope x ∧ (X.fn x = true ∨ X.env.scope.names.lookup x = some .local)
theorem ckGs_len {N : List Str} {ss : Scope} {env : Env} : ∀ {tg : List Nat} {es : List Expr}, ckGs N ss tg es = true → (assignEach es env).length = tg.length ∧ (assignEach es env).findIdx? (·.1) = none
  | [], es, h => by
    simp only [ckGs, List.isEmpty_iff] at h
    subst h
    exact ⟨rfl, rfl⟩
  | i :: is, es, h => by
    simp only [ckGs] at h
    split at h
    · rename_i x p r
      simp only [Bool.and_eq_true] at h
      obtain ⟨h1, h2⟩ := ckGs_len (env := env) h.2
      refine ⟨by show _ + 1 = _; rw [h1]; rfl, ?_⟩
      show List.findIdx? _ ((false, assign (.Name x p) env) :: assignEach r env) = none
      rw [List.findIdx?_cons]
      simp [h2]
    · cases h
theorem ckGs_ok {N : List Str} {ss : Scope} (hn : X.N = N) (hd : X.N.Nodup) (ho : StOk X ss) : ∀ {tg : List Nat} {es : List Expr}, ckGs N ss tg es = true → PGs X es (gAll tg)
  | [], es, h => by
    simp only [ckGs, List.isEmpty_iff] at h
    subst h
    exact pgs_nil
  | i :: is, es, h => by
    simp only [ckGs] at h
    split at h
    · rename_i x p r
      simp only [Bool.and_eq_true, decide_eq_true_eq] at h
      obtain ⟨h1, h2⟩ := ho x h.1.2
      exact pgs_cons (pg_name hd (by rw [hn]; exact h.1.1) h1 h2) (ckGs_ok hn hd ho h.2)
    · cases h
theorem ckG_ok {N : List Str} {ss : Scope} (hc : X.calm = true) (hn : X.N = N) (hd : X.N.Nodup) (ho : StOk X ss) {tg : List Nat} {pat : Bool} {e : Expr} (h : ckG N ss tg pat e = true) : PG X e (gTg X.K tg pat) := by
  unfold ckG at h
  split at h
  · split at h
    · simp only [Bool.and_eq_true, decide_eq_true_eq] at h
      obtain ⟨h1, h2⟩ := ho _ h.2
      exact pg_name hd (by rw [hn]; exact h.1) h1 h2
    · cases h
  · split at h
    · obtain ⟨h1, h2⟩ := ckGs_len (env := X.env) h
      exact pg_tup hc (ckGs_ok hn hd ho h) h1 h2
    · cases h



theorem Gl.n {x y : Str} (e : x = y) (h : Gl X x) : Gl X y := e ▸ h
theorem relS_kind {scope sc : Scope} : (relS scope sc).kind = scope.kind := rfl
theorem Cok.blk {sc scope : Scope} (k : Cok X c sc) (s : Shared) (H : Hp) (cenv : Env) (fp : List Addr) (he : cenv.scope = relS scope sc) (hk : scope.kind = .function) : Cok (X.blk s H scope cenv fp) c (relS scope sc) :=
  ⟨k.N, he, hk⟩
theorem StOk.blk {sc scope : Scope} (s : Shared) (H : Hp) (cenv : Env) (fp : List Addr) (he : cenv.scope = relS scope sc) : StOk (X.blk s H scope cenv fp) scope := fun x h => by
  unfold locB at h
  split at h <;> first | cases h; done | skip
  · rename_i q
    have := lookup_relS_keep (sc := sc) (k := .local) (by decide) q
    have e : (X.blk s H scope cenv fp).env.scope.names.lookup x = some .local := by
      show cenv.scope.names.lookup x = _
      rw [he]
      exact this
    exact ⟨.inl e, .inr e⟩
  · rename_i q
    have := lookup_relS_keep (sc := sc) (k := .cell) (by decide) q
    have e : (X.blk s H scope cenv fp).env.scope.names.lookup x = some .cell := by
      show cenv.scope.names.lookup x = _
      rw [he]
      exact this
    refine ⟨.inr e, .inl ?_⟩
    show (scope.names.lookup x == some .cell) = true
    rw [q]
    rfl
end
end Pl

set_option maxHeartbeats 4000000
/-! The check is sound. -/
namespace Pl
open PySem L2
section
variable {nm : Nat → Addr} {c : Cc} {C : Nat → List D → Sto → R D} {G : Nat → Option D}
theorem tyne {s : String} {x : Str} {p : Pos} {X : Cx} (hg : Gl X x) (e : x = (s : Str)) (hb : X.mg (s : Str) = none) (hv : bootBuiltins (s : Str) = some (.type s)) (h1 : (s : Str) ≠ "__name__") (h2 : ((s : Str) == ("__debug__" : Str)) = false) : PE X (.Name x p) (tC (.ty s)) := by
  subst e
  exact pe_bltn hg hb hv rfl h1 h2
theorem ty_name {X : Cx} {t : Ty} {x : Str} {p : Pos} {fx : Fx} {fl : Fl} {nms : Nat → Str} (g : Gd X nm nms C G fl fx) (hg : Gl X x) (e : x = (t.tn : Str)) : PE X (.Name x p) (tC (.ty t.tn)) := by
  cases t
  · exact tyne hg e (g.blt _ (by simp [blts, Ty.tn])) (by decide +kernel) (by decide) (by decide)
  · exact tyne hg e (g.blt _ (by simp [blts, Ty.tn])) (by decide +kernel) (by decide) (by decide)
  · exact tyne hg e (g.blt _ (by simp [blts, Ty.tn])) (by decide +kernel) (by decide) (by decide)
  · exact tyne hg e (g.blt _ (by simp [blts, Ty.tn])) (by decide +kernel) (by decide) (by decide)
  · exact tyne hg e (g.blt _ (by simp [blts, Ty.tn])) (by decide +kernel) (by decide) (by decide)
theorem ckEs_pln : ∀ {ms : List Ex} {sc : Scope} {es : List Expr}, ckEs c ms sc es = true → es.all plnE = true
  | [], sc, es, h => by
    simp only [ckEs, List.isEmpty_iff] at h
    subst h
    rfl
  | m :: ms, sc, es, h => by
    simp only [ckEs] at h
    split at h
    · simp only [Bool.and_eq_true] at h
      simp only [List.all_cons, Bool.and_eq_true]
      exact ⟨h.1.1, ckEs_pln h.2⟩
    · cases h
theorem ckKs_some : ∀ {ms : List Ex} {sc : Scope} {es : List Keyword}, ckKs c ms sc es = true → es.all (fun k => k.arg.isSome) = true
  | [], sc, es, h => by
    simp only [ckKs, List.isEmpty_iff] at h
    subst h
    rfl
  | m :: ms, sc, es, h => by
    simp only [ckKs] at h
    split at h
    · simp only [Bool.and_eq_true] at h
      simp only [List.all_cons, Bool.and_eq_true]
      exact ⟨rfl, ckKs_some h.2⟩
    · cases h
theorem few_all {es : List Expr} {env : Env} {pos : Pos} (h : es.all plnE = true) : (backTo pos (starEach es env)).all (fun x => !x.1) = true := by
  induction es with
  | nil => rfl
  | cons e r ih =>
    simp only [List.all_cons, Bool.and_eq_true] at h
    rw [plnE_ok h.1]
    show (true && _) = true
    rw [Bool.true_and]
    exact ih h.2
mutual
theorem sE : ∀ (m : Ex) {e : Expr} {sc : Scope} {X : Cx} {fx : Fx}, Gd X nm c.nms C G c.fl fx → Cok X c sc → ckE c m sc e = true → PE X e (tE X.K nm fx (ev C G m))
  | .var i, e, sc, X, fx, g, k, h => by
    simp only [ckE] at h
    split at h <;> first | cases h; done | skip
    simp only [Bool.and_eq_true, decide_eq_true_eq] at h
    obtain ⟨h1, h2⟩ := notB_ok h.2
    exact se_var (by rw [k.N]; exact h.1.1) (by rw [k.se]; exact visB_ok h.1.2) h1 h2
  | .glo n, e, sc, X, fx, g, k, h => by
    simp only [ckE] at h
    split at h <;> first | cases h; done | skip
    simp only [Bool.and_eq_true, decide_eq_true_eq] at h
    obtain ⟨⟨rfl, h3⟩, h4⟩ := h
    exact se_glo g (gloB_ok k h3) (notB_ok h4).1
  | .cst d, e, sc, X, fx, g, k, h => by
    simp only [ckE] at h
    exact cstB_ok h
  | .tup ms, e, sc, X, fx, g, k, h => by
    simp only [ckE] at h
    split at h <;> first | cases h; done | skip
    exact se_tup (sEs ms g k h)
  | .bin op a b, e, sc, X, fx, g, k, h => by
    simp only [ckE] at h
    split at h <;> first | cases h; done | skip
    simp only [Bool.and_eq_true, decide_eq_true_eq] at h
    obtain ⟨⟨rfl, h3⟩, h4⟩ := h
    exact se_bin g (sE a g k h3) (sE b g k h4)
  | .neg a, e, sc, X, fx, g, k, h => by
    simp only [ckE] at h
    split at h <;> first | cases h; done | skip
    exact se_neg (sE a g k h)
  | .cmp op a b, e, sc, X, fx, g, k, h => by
    simp only [ckE] at h
    split at h <;> first | cases h; done | skip
    simp only [Bool.and_eq_true, decide_eq_true_eq, Bool.not_eq_true'] at h
    obtain ⟨⟨⟨rfl, h2⟩, h3⟩, h4⟩ := h
    exact se_cmp g (sE a g k h3) (sE b g k h4) h2
  | .chn o1 o2 a b d, e, sc, X, fx, g, k, h => by
    simp only [ckE] at h
    split at h <;> first | cases h; done | skip
    simp only [Bool.and_eq_true, decide_eq_true_eq, Bool.not_eq_true'] at h
    obtain ⟨⟨⟨⟨⟨rfl, rfl⟩, h2⟩, h3⟩, h4⟩, h5⟩ := h
    exact se_chn g (sE a g k h3) (sE b g k h4) (sE d g k h5) h2
  | .and_ a b, e, sc, X, fx, g, k, h => by
    simp only [ckE] at h
    split at h <;> first | cases h; done | skip
    rename_i x y r p
    simp only [Bool.and_eq_true] at h
    obtain ⟨h3, h4⟩ := h
    cases r with
    | nil => exact se_and (sE a g k h3) (pe_one (sE b g k h4))
    | cons z r => exact se_and (sE a g k h3) (sE b g k h4)
  | .or_ a b, e, sc, X, fx, g, k, h => by
    simp only [ckE] at h
    split at h <;> first | cases h; done | skip
    rename_i x y r p
    simp only [Bool.and_eq_true] at h
    obtain ⟨h3, h4⟩ := h
    cases r with
    | nil => exact se_or (sE a g k h3) (pe_one (sE b g k h4))
    | cons z r => exact se_or (sE a g k h3) (sE b g k h4)
  | .not_ a, e, sc, X, fx, g, k, h => by
    simp only [ckE] at h
    split at h <;> first | cases h; done | skip
    exact se_not (sE a g k h)
  | .ifx t a b, e, sc, X, fx, g, k, h => by
    simp only [ckE] at h
    split at h <;> first | cases h; done | skip
    simp only [Bool.and_eq_true] at h
    obtain ⟨⟨h2, h3⟩, h4⟩ := h
    exact se_ifx (sT t g k h2).1 (sE a g k h3) (sE b g k h4)
  | .idx a b, e, sc, X, fx, g, k, h => by
    simp only [ckE] at h
    split at h <;> first | cases h; done | skip
    simp only [Bool.and_eq_true] at h
    obtain ⟨⟨h2, h3⟩, h4⟩ := h
    exact se_idx g (sE a g k h3) (sE b g k h4) (plnX_ok h2)
  | .sli a lo hi, e, sc, X, fx, g, k, h => by
    simp only [ckE] at h
    split at h <;> first | cases h; done | skip
    simp only [Bool.and_eq_true] at h
    obtain ⟨⟨h2, h3⟩, h4⟩ := h
    exact se_sli (sE a g k h2) (sO lo g k h3) (sO hi g k h4)
  | .call f ms, e, sc, X, fx, g, k, h => by
    simp only [ckE] at h
    split at h <;> first | cases h; done | skip
    rename_i x p es pos
    simp only [Bool.and_eq_true, decide_eq_true_eq] at h
    obtain ⟨⟨⟨⟨rfl, h2⟩, h3⟩, h4⟩, h5⟩ := h
    have q := ckEs_pln h5
    have as := sEs ms g k h5
    cases es with
    | nil =>
      have : ms = [] := by
        cases ms with
        | nil => rfl
        | cons m r => simp [ckEs] at h5
      subst this
      exact se_call0 g h4 (gloB_ok k h2) (notB_ok h3).1
    | cons e r =>
      simp only [List.all_cons, Bool.and_eq_true] at q
      exact se_call g h4 as (gloB_ok k h2) (notB_ok h3).1 (plnE_ok q.1) (plnStar _ q.2)
  | .callk f ms ks perm, e, sc, X, fx, g, k, h => by
    simp only [ckE] at h
    split at h <;> first | cases h; done | skip
    rename_i x p es kws pos
    simp only [Bool.and_eq_true, decide_eq_true_eq] at h
    obtain ⟨⟨⟨⟨⟨⟨⟨rfl, h2⟩, h3⟩, h4⟩, h5⟩, h6⟩, h7⟩, h8⟩ := h
    have q := ckEs_pln h7
    refine se_callk g h4 h5 h6 (sEs ms g k h7) (sKs ks g k h8) (gloB_ok k h2) (notB_ok h3).1 (fun q => ?_) (fun e r q2 => ?_) (plnStar _ q) (ckKs_some h8)
    · subst q
      cases ms with
      | nil => rfl
      | cons m r => simp [ckEs] at h7
    · subst q2
      simp only [List.all_cons, Bool.and_eq_true] at q
      exact plnE_ok q.1
  | .new q, e, sc, X, fx, g, k, h => by
    simp only [ckE] at h
    exact se_new (sF q g k h)
  | .len m, e, sc, X, fx, g, k, h => by
    simp only [ckE] at h
    split at h <;> first | cases h; done | skip
    simp only [Bool.and_eq_true, decide_eq_true_eq] at h
    obtain ⟨⟨⟨rfl, h2⟩, h3⟩, h4⟩ := h
    exact se_len g (sE m g k h4) (gloB_ok k h2) (plnE_ok h3)
  | .lenq m, e, sc, X, fx, g, k, h => by
    simp only [ckE] at h
    split at h <;> first | cases h; done | skip
    simp only [Bool.and_eq_true, decide_eq_true_eq] at h
    obtain ⟨⟨⟨rfl, h2⟩, h3⟩, h4⟩ := h
    exact se_lenq g (sQ m g k h4) (gloB_ok k h2) (plnE_ok h3)
  | .all_ m, e, sc, X, fx, g, k, h => by
    simp only [ckE] at h
    split at h <;> first | cases h; done | skip
    simp only [Bool.and_eq_true, decide_eq_true_eq] at h
    obtain ⟨⟨⟨rfl, h2⟩, h3⟩, h4⟩ := h
    exact se_all g (sQ m g k h4) (gloB_ok k h2) (plnE_ok h3)
  | .any_ m, e, sc, X, fx, g, k, h => by
    simp only [ckE] at h
    split at h <;> first | cases h; done | skip
    simp only [Bool.and_eq_true, decide_eq_true_eq] at h
    obtain ⟨⟨⟨rfl, h2⟩, h3⟩, h4⟩ := h
    exact se_any g (sQ m g k h4) (gloB_ok k h2) (plnE_ok h3)
  | .tupq m, e, sc, X, fx, g, k, h => by
    simp only [ckE] at h
    split at h <;> first | cases h; done | skip
    simp only [Bool.and_eq_true, decide_eq_true_eq] at h
    obtain ⟨⟨⟨rfl, h2⟩, h3⟩, h4⟩ := h
    exact se_tupq g (sQ m g k h4) (gloB_ok k h2) (plnE_ok h3)
  | .join s q, e, sc, X, fx, g, k, h => by
    simp only [ckE] at h
    split at h <;> first | cases h; done | skip
    simp only [Bool.and_eq_true, decide_eq_true_eq] at h
    obtain ⟨⟨⟨⟨⟨rfl, h2⟩, h3⟩, h4⟩, h5⟩, h6⟩ := h
    exact se_join (sE s g k h5) (sQ q g k h6) (plnE_ok h2) (plnA_ok h3) h4
  | .find3 s t i, e, sc, X, fx, g, k, h => by
    simp only [ckE] at h
    split at h <;> first | cases h; done | skip
    simp only [Bool.and_eq_true, decide_eq_true_eq] at h
    obtain ⟨⟨⟨⟨⟨⟨⟨rfl, h2⟩, h3⟩, h4⟩, h5⟩, h6⟩, h7⟩, h8⟩ := h
    exact se_find3 (sE s g k h6) (sE t g k h7) (sE i g k h8) (plnE_ok h2) (plnE_ok h3) (plnA_ok h4) h5
  | .part s t, e, sc, X, fx, g, k, h => by
    simp only [ckE] at h
    split at h <;> first | cases h; done | skip
    simp only [Bool.and_eq_true, decide_eq_true_eq] at h
    obtain ⟨⟨⟨⟨⟨rfl, h2⟩, h3⟩, h4⟩, h5⟩, h6⟩ := h
    exact se_part (sE s g k h5) (sE t g k h6) (plnE_ok h2) (plnA_ok h3) h4
  | .isi m t, e, sc, X, fx, g, k, h => by
    simp only [ckE] at h
    split at h <;> first | cases h; done | skip
    simp only [Bool.and_eq_true, decide_eq_true_eq] at h
    obtain ⟨⟨⟨⟨⟨rfl, h2⟩, h3⟩, h4⟩, h5⟩, h6⟩ := h
    exact se_isi g (sE m g k h6) (ty_name g (gloB_ok k h5) h4) (gloB_ok k h2) (plnE_ok h3)
  | .isi2 m t u, e, sc, X, fx, g, k, h => by
    simp only [ckE] at h
    split at h <;> first | cases h; done | skip
    simp only [Bool.and_eq_true, decide_eq_true_eq] at h
    obtain ⟨⟨⟨⟨⟨⟨⟨rfl, h2⟩, h3⟩, h4⟩, h5⟩, h6⟩, h7⟩, h8⟩ := h
    exact se_isi2 g (sE m g k h8) (ty_name g (gloB_ok k h5) h4) (ty_name g (gloB_ok k h7) h6) (gloB_ok k h2) (plnE_ok h3)
  | .app o m, e, sc, X, fx, g, k, h => by
    simp only [ckE] at h
    split at h <;> first | cases h; done | skip
    simp only [Bool.and_eq_true, decide_eq_true_eq] at h
    obtain ⟨⟨⟨⟨⟨rfl, h2⟩, h3⟩, h4⟩, h5⟩, h6⟩ := h
    exact se_app (sE o g k h5) (sE m g k h6) (plnE_ok h2) (plnA_ok h3) h4
  | .lm m o ms, e, sc, X, fx, g, k, h => by
    simp only [ckE] at h
    split at h <;> first | cases h; done | skip
    rename_i q x p es pos
    simp only [Bool.and_eq_true, decide_eq_true_eq, beq_iff_eq] at h
    obtain ⟨⟨⟨⟨⟨⟨rfl, h2⟩, h3⟩, h4⟩, h5⟩, h6⟩, h7⟩ := h
    have q2 := ckEs_pln h7
    refine se_lm (sE o g k h6) (sEs ms g k h7) h2 (fun q => ?_) (fun e r q3 => ?_) (plnA_ok h3) (by simpa using h4)
    · subst q
      cases ms with
      | nil => rfl
      | cons m r => simp [ckEs] at h7
    · subst q3
      have q4 := q2
      simp only [List.all_cons, Bool.and_eq_true] at q2
      refine ⟨plnE_ok q2.1, plnStar _ q2.2, ?_⟩
      rw [few_all q4]
      simp only [List.length_cons, Bool.true_and]
      simp only [List.length_cons] at h5
      have : decide (r.length + 1 + ([] : List Keyword).length + (if ([] : List Keyword).isEmpty then 0 else 1) < 30) = true := by
        refine decide_eq_true ?_
        show r.length + 1 + 0 + 0 < 30
        omega
      rw [this]
      rfl
  | .rev m, e, sc, X, fx, g, k, h => by
    simp only [ckE] at h
    split at h <;> first | cases h; done | skip
    simp only [Bool.and_eq_true, decide_eq_true_eq] at h
    obtain ⟨rfl, h2⟩ := h
    exact se_rev (sE m g k h2)
  | .intb m, e, sc, X, fx, g, k, h => by
    simp only [ckE] at h
    split at h <;> first | cases h; done | skip
    simp only [Bool.and_eq_true, decide_eq_true_eq] at h
    obtain ⟨⟨⟨rfl, h2⟩, h3⟩, h4⟩ := h
    exact se_intb g (sE m g k h4) (gloB_ok k h2) (plnE_ok h3)
  | .no, e, sc, X, fx, g, k, h => se_no
theorem sEs : ∀ (ms : List Ex) {es : List Expr} {sc : Scope} {X : Cx} {fx : Fx}, Gd X nm c.nms C G c.fl fx → Cok X c sc → ckEs c ms sc es = true → PA X es (tA X.K nm fx (evs C G ms))
  | [], es, sc, X, fx, g, k, h => by
    simp only [ckEs, List.isEmpty_iff] at h
    subst h
    exact sa_nil
  | m :: ms, es, sc, X, fx, g, k, h => by
    simp only [ckEs] at h
    split at h <;> first | cases h; done | skip
    simp only [Bool.and_eq_true] at h
    exact sa_cons (sE m g k h.1.2) (sEs ms g k h.2) (plnE_ok h.1.1)
theorem sKs : ∀ (ms : List Ex) {es : List Keyword} {sc : Scope} {X : Cx} {fx : Fx}, Gd X nm c.nms C G c.fl fx → Cok X c sc → ckKs c ms sc es = true → PK X es (tA X.K nm fx (evs C G ms))
  | [], es, sc, X, fx, g, k, h => by
    simp only [ckKs, List.isEmpty_iff] at h
    subst h
    exact sk_nil
  | m :: ms, es, sc, X, fx, g, k, h => by
    simp only [ckKs] at h
    split at h <;> first | cases h; done | skip
    simp only [Bool.and_eq_true] at h
    exact sk_cons (sE m g k h.1) (sKs ms g k h.2)
theorem sO : ∀ (m : Option Ex) {e : Option Expr} {sc : Scope} {X : Cx} {fx : Fx}, Gd X nm c.nms C G c.fl fx → Cok X c sc → ckO c m sc e = true → PO X e (tO X.K nm fx (evo C G m))
  | none, e, sc, X, fx, g, k, h => by
    simp only [ckO, Option.isNone_iff_eq_none] at h
    subst h
    exact so_none
  | some m, e, sc, X, fx, g, k, h => by
    simp only [ckO] at h
    split at h <;> first | cases h; done | skip
    exact so_some (sE m g k h)
theorem sT : ∀ (m : Te) {e : Expr} {sc : Scope} {X : Cx} {fx : Fx}, Gd X nm c.nms C G c.fl fx → Cok X c sc → ckT c m sc e = true → PT X e (tT X.K nm fx (evT C G m)) ∧ ∀ op vs p, e = .BoolOp op vs p → PW X e (tT X.K nm fx (evT C G m))
  | .ex m, e, sc, X, fx, g, k, h => by
    simp only [ckT, Bool.and_eq_true] at h
    refine ⟨st_ex (sE m g k h.2) (plnI_ok h.1), ?_⟩
    rintro op vs p rfl
    cases h.1
  | .cmp op a b, e, sc, X, fx, g, k, h => by
    simp only [ckT] at h
    split at h <;> first | cases h; done | skip
    simp only [Bool.and_eq_true, decide_eq_true_eq, Bool.not_eq_true'] at h
    obtain ⟨⟨⟨rfl, h2⟩, h3⟩, h4⟩ := h
    exact ⟨st_cmp g (sE a g k h3) (sE b g k h4) h2, fun _ _ _ q => by cases q⟩
  | .chn o1 o2 a b d, e, sc, X, fx, g, k, h => by
    simp only [ckT] at h
    split at h <;> first | cases h; done | skip
    simp only [Bool.and_eq_true, decide_eq_true_eq, Bool.not_eq_true'] at h
    obtain ⟨⟨⟨⟨⟨rfl, rfl⟩, h2⟩, h3⟩, h4⟩, h5⟩ := h
    exact ⟨st_chn g (sE a g k h3) (sE b g k h4) (sE d g k h5) h2, fun _ _ _ q => by cases q⟩
  | .and_ a b, e, sc, X, fx, g, k, h => by
    simp only [ckT] at h
    split at h <;> first | cases h; done | skip
    rename_i x y r p
    simp only [Bool.and_eq_true] at h
    obtain ⟨h3, h4⟩ := h
    have q : PW X (.BoolOp .And (x :: y :: r) p) (tT X.K nm fx (evT C G (.and_ a b))) := by
      cases r with
      | nil => exact sw_and (sT a g k h3).1 (pw_and1 (sT b g k h4).1)
      | cons z r => exact sw_and (sT a g k h3).1 ((sT b g k h4).2 _ _ _ rfl)
    exact ⟨q.pt, fun _ _ _ _ => q⟩
  | .or_ a b, e, sc, X, fx, g, k, h => by
    simp only [ckT] at h
    split at h <;> first | cases h; done | skip
    rename_i x y r p
    simp only [Bool.and_eq_true] at h
    obtain ⟨h3, h4⟩ := h
    have q : PW X (.BoolOp .Or (x :: y :: r) p) (tT X.K nm fx (evT C G (.or_ a b))) := by
      cases r with
      | nil => exact sw_or (sT a g k h3).1 (pw_or1 (sT b g k h4).1)
      | cons z r => exact sw_or (sT a g k h3).1 ((sT b g k h4).2 _ _ _ rfl)
    exact ⟨q.pt, fun _ _ _ _ => q⟩
  | .not_ a, e, sc, X, fx, g, k, h => by
    simp only [ckT] at h
    split at h <;> first | cases h; done | skip
    exact ⟨st_not (sT a g k h).1, fun _ _ _ q => by cases q⟩
theorem sTo : ∀ (m : Option Te) {es : List Expr} {sc : Scope} {X : Cx} {fx : Fx}, Gd X nm c.nms C G c.fl fx → Cok X c sc → ckTo c m sc es = true → PTs X es (tT X.K nm fx (evto C G m))
  | none, es, sc, X, fx, g, k, h => by
    simp only [ckTo, List.isEmpty_iff] at h
    subst h
    exact ⟨fun pins s σ H Q I h => pts_nil.run pins s σ H Q I (by
      obtain ⟨ι, S, ρ, st, w⟩ := h
      exact w ι H st.rel .refl)⟩
  | some m, es, sc, X, fx, g, k, h => by
    simp only [ckTo] at h
    split at h <;> first | cases h; done | skip
    exact pts_one (sT m g k h).1
theorem sF : ∀ (m : Fr) {e : Expr} {sc : Scope} {X : Cx} {fx : Fx}, Gd X nm c.nms C G c.fl fx → Cok X c sc → ckF c m sc e = true → PE X e (tF X.K nm fx (evF C G m))
  | .lst ms, e, sc, X, fx, g, k, h => by
    simp only [ckF] at h
    split at h <;> first | cases h; done | skip
    exact sf_lst (sEs ms g k h)
  | .lc own tg pat it cond elt, e, sc, X, fx, g, k, h => by
    simp only [ckF] at h
    split at h <;> first | cases h; done | skip
    rename_i x t i ifs a scope p
    simp only [Bool.and_eq_true, decide_eq_true_eq] at h
    obtain ⟨⟨⟨⟨⟨⟨⟨rfl, h1⟩, h2⟩, h3⟩, h4⟩, h5⟩, h6⟩, h7⟩ := h
    have ok := blkOk_by h1
    have go : ∀ (s : Shared) (H : Hp) (d : Addr) (cl : List (Str × Addr)) (fp : List Addr), Cok (X.blk s H scope (compEnvC scope cl d X.env) fp) c (relS scope sc) := fun s H d cl fp => by
      refine k.blk s H _ fp ?_ ok.kind
      rw [← k.se]
      rfl
    refine sf_lc g (sI it t g k h5) (by rw [k.N, k.se]; exact ok) (fun s H d cl fp => ?_) (fun s H d cl fp => sTo cond (g.blk s H scope _ fp) (go s H d cl fp) h6) (fun s H d cl fp => sE elt (g.blk s H scope _ fp) (go s H d cl fp) h7) (fun j hj => ?_) (plnF_ok h2)
    · exact ckG_ok (g.blk s H scope _ fp).calm (go s H d cl fp).N (g.blk s H scope _ fp).nd (StOk.blk (sc := X.env.scope) s H _ fp rfl) h3
    · have := List.all_eq_true.mp h4 j hj
      simpa using this
  | .list q, e, sc, X, fx, g, k, h => by
    simp only [ckF] at h
    split at h <;> first | cases h; done | skip
    simp only [Bool.and_eq_true, decide_eq_true_eq] at h
    obtain ⟨⟨⟨rfl, h2⟩, h3⟩, h4⟩ := h
    exact sf_list g (sQ q g k h4) (gloB_ok k h2) (plnE_ok h3)
  | .cut m lo hi, e, sc, X, fx, g, k, h => by
    simp only [ckF] at h
    split at h <;> first | cases h; done | skip
    simp only [Bool.and_eq_true] at h
    obtain ⟨⟨h2, h3⟩, h4⟩ := h
    exact sf_cut (sE m g k h2) (sO lo g k h3) (sO hi g k h4)
theorem sQ : ∀ (m : Sq) {e : Expr} {sc : Scope} {X : Cx} {fx : Fx}, Gd X nm c.nms C G c.fl fx → Cok X c sc → ckQ c m sc e = true → PE X e (tQ X.K nm fx (evQ C G m))
  | .ex m, e, sc, X, fx, g, k, h => by
    simp only [ckQ] at h
    exact sq_ex (sE m g k h)
  | .fr m, e, sc, X, fx, g, k, h => by
    simp only [ckQ] at h
    exact sq_fr (sF m g k h)
theorem sI : ∀ (m : It) (t : Expr) {e : Expr} {sc : Scope} {X : Cx} {fx : Fx}, Gd X nm c.nms C G c.fl fx → Cok X c sc → ckI c m sc t e = true → PI X t e (tI X.K nm fx (evI C G m))
  | .sq m, t, e, sc, X, fx, g, k, h => by
    simp only [ckI] at h
    exact si_sq (sQ m g k h)
  | .str m, t, e, sc, X, fx, g, k, h => by
    simp only [ckI] at h
    exact si_str (sE m g k h)
  | .rng m, t, e, sc, X, fx, g, k, h => by
    simp only [ckI] at h
    split at h <;> first | cases h; done | skip
    simp only [Bool.and_eq_true, decide_eq_true_eq] at h
    obtain ⟨⟨⟨rfl, h2⟩, h3⟩, h4⟩ := h
    exact si_rng g (sE m g k h4) (gloB_ok k h2) (plnE_ok h3)
  | .rng2 m n, t, e, sc, X, fx, g, k, h => by
    simp only [ckI] at h
    split at h <;> first | cases h; done | skip
    simp only [Bool.and_eq_true, decide_eq_true_eq] at h
    obtain ⟨⟨⟨⟨⟨rfl, h2⟩, h3⟩, h4⟩, h5⟩, h6⟩ := h
    exact si_rng2 g (sE m g k h5) (sE n g k h6) (gloB_ok k h2) (by rw [plnE_ok h3, plnE_ok h4] <;> rfl) (plnE_ok h4)
  | .zip p q, t, e, sc, X, fx, g, k, h => by
    simp only [ckI] at h
    split at h <;> first | cases h; done | skip
    simp only [Bool.and_eq_true, decide_eq_true_eq] at h
    obtain ⟨⟨⟨⟨⟨rfl, h2⟩, h3⟩, h4⟩, h5⟩, h6⟩ := h
    exact si_zip g (sQ p g k h5) (sQ q g k h6) (gloB_ok k h2) (plnE_ok h3) (plnE_ok h4)
  | .enum q, t, e, sc, X, fx, g, k, h => by
    simp only [ckI] at h
    split at h <;> first | cases h; done | skip
    simp only [Bool.and_eq_true, decide_eq_true_eq] at h
    obtain ⟨⟨⟨rfl, h2⟩, h3⟩, h4⟩ := h
    exact si_enum g (sQ q g k h4) (gloB_ok k h2) (plnE_ok h3)
end
end
end Pl

set_option maxHeartbeats 4000000
/-! The check of statements, and that it is sound. -/
namespace Pl
open PySem L2
def isLocB (sc : Scope) (x : Str) : Bool := decide (sc.names.lookup x = some .local)
/-- an own list made anew in place -/
def lcAsg (sc : Scope) (x : Str) (px : Pos) (e : Expr) : Bool := match e with
  | .ListComp _ [_] scope pos => (px.line == pos.line) && isLocB sc x && !(scope.names.any fun (n, k) => n == x && (k == .local || k == .cell))
  | _ => false
section
variable (c : Cc)
mutual
def ckS : Sm → Scope → Stmt → Bool
  | .asg i m, sc, s => match s with
    | .Assign [.Name x p] e pos => decide (c.N[i]? = some x) && locB sc x && ckE c m sc e && (match m with
      | .new (.lc _ _ _ _ _ _) => lcAsg sc x p e
      | _ => plnC e)
    | _ => false
  | .asgT is m, sc, s => match s with
    | .Assign [.Tuple es k p] e _ => plnT e && ckG c.N sc is true (.Tuple es k p) && ckE c m sc e
    | _ => false
  | .setI o i m, sc, s => match s with
    | .Assign [.Subscript x y _] e _ => plnX y && plnT e && ckE c o sc x && ckE c i sc y && ckE c m sc e
    | _ => false
  | .augI op o i m, sc, s => match s with
    | .AugAssign (.Subscript x y _) q e _ => decide (q = op.op) && plnX y && ckE c o sc x && ckE c i sc y && ckE c m sc e
    | _ => false
  | .aug op i m, sc, s => match s with
    | .AugAssign (.Name x _) q e _ => decide (q = op.op) && decide (c.N[i]? = some x) && locB sc x && ckE c m sc e
    | _ => false
  | .expr m, sc, s => match s with
    | .Expr e _ => plnC e && ckE c m sc e
    | _ => false
  | .if_ t a b, sc, s => match s with
    | .If e x y _ => ckT c t sc e && ckSs a sc x && ckSs b sc y
    | _ => false
  | .for_ tg pat it b, sc, s => match s with
    | .For t e x [] _ => plnF e && ckG c.N sc tg pat t && ckI c it sc t e && ckSs b sc x
    | _ => false
  | .while_ t b, sc, s => match s with
    | .While e x [] _ => ckT c t sc e && ckSs b sc x
    | _ => false
  | .ret m, sc, s => match s with
    | .Return (some e) _ => ckE c m sc e
    | _ => false
  | .retN, _, s => match s with
    | .Return none _ => true
    | _ => false
  | .pass, _, s => match s with
    | .Pass _ => true
    | _ => false
  | .brk, _, s => match s with
    | .Break _ => true
    | _ => false
  | .cont, _, s => match s with
    | .Continue _ => true
    | _ => false
  | .no, _, _ => true
def ckSs : List Sm → Scope → List Stmt → Bool
  | [], _, es => es.isEmpty
  | m :: ms, sc, es => match es with
    | e :: r => ckS m sc e && ckSs ms sc r
    | [] => false
end
end
section
variable {nm : Nat → Addr} {c : Cc} {C : Nat → List D → Sto → R D} {G : Nat → Option D}
/-- what a def's body is walked under -/
structure Gds (X : Cx) (nm : Nat → Addr) (c : Cc) (C : Nat → List D → Sto → R D) (G : Nat → Option D) (fx : Fx) (sc : Scope) : Prop where
  g : Gd X nm c.nms C G c.fl fx
  k : Cok X c sc
  st : StOk X sc
  hp : PassesOwn (model X.prog X.w) X.A X.env X.xe
theorem plnT_c {e : Expr} (h : plnT e = true) : plnC e = true := by
  cases e <;> first | rfl | cases h
theorem sole_ok {t e : Expr} {l : Nat} {env : Env} (h : plnT e = true) : swapsWithSole [t] e l env = pure false := by
  unfold swapsWithSole
  exact plnC_ok (plnT_c h)
theorem swapped_tup {es : List Expr} {k : Nat} {p : Pos} {e : Expr} {env : Env} (h : plnT e = true) : swappedStores [.Tuple es k p] e env = pure none := by
  unfold swappedStores
  cases e <;> first | rfl | cases h
theorem swapped_sub {x y : Expr} {p : Pos} {e : Expr} {env : Env} : swappedStores [.Subscript x y p] e env = pure none := by
  unfold swappedStores
  rfl
theorem assign_sub {o i : Expr} {p : Pos} {env : Env} (h : plnX i = true) (v : Value) : assign (.Subscript o i p) env v = (do
      let ov ← holding [v] (eval o env)
      let iv ← holding [v, ov] (eval i env)
      standAt p
      holding [v, ov, iv] (setItem ov iv v)
      release [v, ov, iv] []) := by
  cases i <;> first | rfl | cases h
theorem augStore_pln {i : Expr} (h : plnX i = true) (ov iv new : Value) : augStore i ov iv new = (do holding [new, ov, iv] (setItem ov iv new); release [new, ov, iv] []; pure .next) := by
  cases i <;> first | rfl | cases h
mutual
theorem sS : ∀ (m : Sm) {s : Stmt} {sc : Scope} {X : Cx} {fx : Fx}, Gds X nm c C G fx sc → ckS c m sc s = true → PS X s (tS X.K nm fx (ex C G m))
  | .asg i m, s, sc, X, fx, k, h => by
    simp only [ckS] at h
    split at h <;> first | cases h; done | skip
    rename_i x p e pos
    simp only [Bool.and_eq_true, decide_eq_true_eq] at h
    obtain ⟨⟨⟨h1, h2⟩, h3⟩, h4⟩ := h
    obtain ⟨l1, l2⟩ := k.st x h2
    have hi : X.N[i]? = some x := by rw [k.k.N]; exact h1
    split at h4
    · rename_i own tg pat it cond elt
      unfold lcAsg at h4
      split at h4 <;> first | cases h4; done | skip
      rename_i elt' gen scope lpos
      simp only [Bool.and_eq_true, isLocB, decide_eq_true_eq, Bool.not_eq_true'] at h4
      obtain ⟨⟨a1, a2⟩, a3⟩ := h4
      simp only [ckE, ckF] at h3
      split at h3 <;> first | cases h3; done | skip
      rename_i x' t i' ifs a scope' p' heq
      cases heq
      simp only [Bool.and_eq_true, decide_eq_true_eq] at h3
      obtain ⟨⟨⟨⟨⟨⟨⟨rfl, h1⟩, h2⟩, h3⟩, h4⟩, h5⟩, h6⟩, h7⟩ := h3
      have ok := blkOk_by h1
      have go : ∀ (s : Shared) (H : Hp) (d : Addr) (cl : List (Str × Addr)) (fp : List Addr), Cok (X.blk s H scope (compEnvC scope cl d X.env) fp) c (relS scope sc) := fun s H d cl fp => by
        refine k.k.blk s H _ fp ?_ ok.kind
        rw [← k.k.se]
        rfl
      refine ss_asgLc k.g hi (by rw [k.k.se]; exact a2) (sw_true (by rw [k.k.se]; exact k.k.kd) (by rw [k.k.se]; exact a2) a1 a3) (sI it t k.g k.k h5) (by rw [k.k.N, k.k.se]; exact ok) (fun s H d cl fp => ?_) (fun s H d cl fp => sTo cond (k.g.blk s H scope _ fp) (go s H d cl fp) h6) (fun s H d cl fp => sE elt (k.g.blk s H scope _ fp) (go s H d cl fp) h7) (fun j hj => ?_) (plnF_ok h2)
      · exact ckG_ok (k.g.blk s H scope _ fp).calm (go s H d cl fp).N (k.g.blk s H scope _ fp).nd (StOk.blk (sc := X.env.scope) s H _ fp rfl) h3
      · have := List.all_eq_true.mp h4 j hj
        simpa using this
    · exact ss_asg k.g hi l1 l2 (sE m k.g k.k h3) (plnC_ok h4)
  | .asgT is m, s, sc, X, fx, k, h => by
    simp only [ckS] at h
    split at h <;> first | cases h; done | skip
    simp only [Bool.and_eq_true] at h
    obtain ⟨⟨h1, h2⟩, h3⟩ := h
    exact ss_asgT k.g (sE m k.g k.k h3) (ckG_ok k.g.calm k.k.N k.g.nd k.st h2) (sole_ok h1) (swapped_tup h1) rfl
  | .setI o i m, s, sc, X, fx, k, h => by
    simp only [ckS] at h
    split at h <;> first | cases h; done | skip
    simp only [Bool.and_eq_true] at h
    obtain ⟨⟨⟨⟨h1, h2⟩, h3⟩, h4⟩, h5⟩ := h
    exact ss_setI (sE m k.g k.k h5) (sE o k.g k.k h3) (sE i k.g k.k h4) (assign_sub h1) (sole_ok h2) swapped_sub rfl
  | .augI op o i m, s, sc, X, fx, k, h => by
    simp only [ckS] at h
    split at h <;> first | cases h; done | skip
    simp only [Bool.and_eq_true, decide_eq_true_eq] at h
    obtain ⟨⟨⟨⟨rfl, h2⟩, h3⟩, h4⟩, h5⟩ := h
    exact ss_augI (sE o k.g k.k h3) (sE i k.g k.k h4) (sE m k.g k.k h5) (augStore_pln h2)
  | .aug op i m, s, sc, X, fx, k, h => by
    simp only [ckS] at h
    split at h <;> first | cases h; done | skip
    simp only [Bool.and_eq_true, decide_eq_true_eq] at h
    obtain ⟨⟨⟨rfl, h2⟩, h3⟩, h4⟩ := h
    obtain ⟨l1, l2⟩ := k.st _ h3
    exact ss_aug k.g (by rw [k.k.N]; exact h2) l1 l2 (sE m k.g k.k h4)
  | .expr m, s, sc, X, fx, k, h => by
    simp only [ckS] at h
    split at h <;> first | cases h; done | skip
    simp only [Bool.and_eq_true] at h
    exact ss_expr (sE m k.g k.k h.2) (plnC_ok h.1)
  | .if_ t a b, s, sc, X, fx, k, h => by
    simp only [ckS] at h
    split at h <;> first | cases h; done | skip
    simp only [Bool.and_eq_true] at h
    exact ss_if (sT t k.g k.k h.1.1).1 (sSs a k h.1.2) (sSs b k h.2)
  | .for_ tg pat it b, s, sc, X, fx, k, h => by
    simp only [ckS] at h
    split at h <;> first | cases h; done | skip
    simp only [Bool.and_eq_true] at h
    obtain ⟨⟨⟨h1, h2⟩, h3⟩, h4⟩ := h
    exact ss_for k.g k.hp (sI it _ k.g k.k h3) (ckG_ok k.g.calm k.k.N k.g.nd k.st h2) (sSs b k h4) (plnF_ok h1)
  | .while_ t b, s, sc, X, fx, k, h => by
    simp only [ckS] at h
    split at h <;> first | cases h; done | skip
    simp only [Bool.and_eq_true] at h
    exact ss_while k.hp (sT t k.g k.k h.1).1 (sSs b k h.2)
  | .ret m, s, sc, X, fx, k, h => by
    simp only [ckS] at h
    split at h <;> first | cases h; done | skip
    exact ss_ret (sE m k.g k.k h)
  | .retN, s, sc, X, fx, k, h => by
    simp only [ckS] at h
    split at h <;> first | cases h; done | skip
    exact ss_retN
  | .pass, s, sc, X, fx, k, h => by
    simp only [ckS] at h
    split at h <;> first | cases h; done | skip
    exact ss_pass
  | .brk, s, sc, X, fx, k, h => by
    simp only [ckS] at h
    split at h <;> first | cases h; done | skip
    exact ss_brk
  | .cont, s, sc, X, fx, k, h => by
    simp only [ckS] at h
    split at h <;> first | cases h; done | skip
    exact ss_cont
  | .no, s, sc, X, fx, k, h => ss_no
theorem sSs : ∀ (ms : List Sm) {es : List Stmt} {sc : Scope} {X : Cx} {fx : Fx}, Gds X nm c C G fx sc → ckSs c ms sc es = true → PSs X es (tS X.K nm fx (exs C G ms))
  | [], es, sc, X, fx, k, h => by
    simp only [ckSs, List.isEmpty_iff] at h
    subst h
    exact sss_nil
  | m :: ms, es, sc, X, fx, k, h => by
    simp only [ckSs] at h
    split at h <;> first | cases h; done | skip
    simp only [Bool.and_eq_true] at h
    exact sss_cons (sS m k h.1) (sSs ms k h.2)
end
end
end Pl

set_option maxHeartbeats 4000000
/-! The text's defs: each does what Pl's run says. -/
namespace Pl
open PySem L2
structure Dn where
  st : Stmt
  ps : List Str
  N : List Str
  fn : Fn
def natB : NameKind → Bool
  | .free => false
  | _ => true
def Dn.ok (d : Dn) (nms : Nat → Str) (fl : Fl) : Bool :=
  (match (defScope d.st).kind with | .function => true | _ => false) && (!(defScope d.st).isCoroutine) && (!(defScope d.st).isGenerator) && decide d.N.Nodup && decide (d.N.take d.ps.length = d.ps) && (d.ps.all fun x => locB (defScope d.st) x) &&
    ((defScope d.st).names.all fun y => natB y.2) && decide (d.fn.ps = d.ps.length) && decide (d.fn.sl = d.N.length) && ckSs ⟨d.N, nms, fl⟩ d.fn.body (defScope d.st) (defBody d.st)
structure Dn.Ok (d : Dn) (nms : Nat → Str) (fl : Fl) : Prop where
  sc : FnScope d.N d.ps (defScope d.st)
  ps : d.fn.ps = d.ps.length
  sl : d.fn.sl = d.N.length
  ck : ckSs ⟨d.N, nms, fl⟩ d.fn.body (defScope d.st) (defBody d.st) = true
theorem Dn.ok_ok {d : Dn} {nms : Nat → Str} {fl : Fl} (h : d.ok nms fl = true) : d.Ok nms fl := by
  unfold Dn.ok at h
  simp only [Bool.and_eq_true, Bool.not_eq_true', decide_eq_true_eq, List.all_eq_true] at h
  obtain ⟨⟨⟨⟨⟨⟨⟨⟨⟨h1, h2⟩, h3⟩, h4⟩, h5⟩, h6⟩, h7⟩, h8⟩, h9⟩, h10⟩ := h
  refine ⟨⟨?_, h2, h3, h4, h5, fun x hx => locB_ok (h6 x hx), fun y hy e => ?_⟩, h8, h9, h10⟩
  · split at h1
    · assumption
    · cases h1
  · have := h7 y hy
    rw [e] at this
    cases this
/-- a table of texts -/
abbrev DT := Nat → Option Dn
def DT.tab (t : DT) : Tab := fun f => (t f).map fun d => d.fn
/-- what stands behind the top -/
structure Wd (K : PySem.W.Frag) (mg : Str → Option Value) (nm : Nat → Addr) (nms : Nat → Str) (t : DT) (fl : Fl) (G : Nat → Option D) : Prop where
  fns : ∀ f d, t f = some d → ∃ a fd, mg (nms f) = some (.ref a) ∧ FunD K (nms f) (nms f) (defArgs d.st) (defBody d.st) (defScope d.st) [] [] a fd ∧ Binds K fd d.ps [] ∧ ∀ n ks perm, fl.kw f n ks perm = true → KBn K fd d.ps n ks (fun us ws => permL perm (us ++ ws)) (fun us ws => permL perm (us ++ ws))
  on : ∀ f, fl.on f = true → ∃ d, t f = some d
  ok : ∀ f d, t f = some d → d.Ok nms fl
  glo : ∀ n d, G n = some d → ∃ u v, mg (nms n) = some u ∧ RelV v u ∧ ∀ ι H, Rep K nm ι H d v
  blt : ∀ x ∈ blts, mg x = none
section
variable {K : PySem.W.Frag} {nm : Nat → Addr} {nms : Nat → Str}
theorem start_len {N : List Str} {vs : List V} (h : vs.length ≤ N.length) : (L2.start N vs).length = N.length := by
  unfold L2.start
  rw [List.length_append, List.length_map, List.length_replicate]
  omega
theorem start_at {N : List Str} {vs : List V} {ι : List Addr} {H : Hp} {ds : List D} {n m : Nat} (r : Reps K nm ι H ds vs) (hl : ds.length = n) (hm : m = N.length) : ∀ (i : Nat) (d : D), (startD n m ds)[i]? = some (some d) → ∃ v, (L2.start N vs)[i]? = some (some v) ∧ Rep K nm ι H d v := by
  intro i d h
  unfold startD at h
  unfold L2.start
  by_cases hi : i < ds.length
  · rw [List.getElem?_append_left (by simpa using hi), List.getElem?_map] at h
    cases q : ds[i]? with
    | none => rw [q] at h; cases h
    | some e =>
      rw [q] at h
      cases h
      obtain ⟨v, h1, h2⟩ := r.get q
      refine ⟨v, ?_, h2⟩
      rw [List.getElem?_append_left (by simpa [r.length] using hi), List.getElem?_map, h1]
      rfl
  · rw [List.getElem?_append_right (by simpa using hi), List.getElem?_replicate] at h
    split at h <;> cases h
end
section
variable {P : Program} {w : World} {K : PySem.W.Frag} {mg : Str → Option Value} {base : Heap} {nm : Nat → Addr} {nms : Nat → Str} {t : DT} {fl : Fl} {G : Nat → Option D}
theorem def_ok (W : Wd K mg nm nms t fl G) : ∀ (k f : Nat) (d : Dn), t f = some d → ∀ (a : Addr) (fd : FuncData), FunD K (nms f) (nms f) (defArgs d.st) (defBody d.st) (defScope d.st) [] [] a fd → FnOk P w K mg base (L2.CX P w) k a fd d.ps (spF K nm nms (run t.tab G k f))
  | 0, f, d, hd, a, fd, F => by
    refine ⟨fun vs H Q E h => ?_, fun A outer s H args us vs Q E hr he hb hv h => ?_⟩
    · obtain ⟨ι, S, ds, _, _, z⟩ := h
      exact z.elim
    · obtain ⟨ι, S, ds, _, _, z⟩ := h
      exact z.elim
  | k + 1, f, d, hd, a, fd, F => by
    have ok := W.ok f d hd
    have hT : t.tab f = some d.fn := by unfold DT.tab; rw [hd]; rfl
    refine F.ok ok.sc (fun vs H Q E h => ?_) (fun cdv A outer s H vs Q E hr h => ?_)
    · obtain ⟨ι, S, ds, _, r, z⟩ := h
      simp only [run, hT, runF] at z
      split at z
      · rename_i hl
        rw [r.length, hl, ok.ps]
      · exact z.elim
    · obtain ⟨ι, S, ds, rel, r, z⟩ := h
      simp only [run, hT, runF] at z
      split at z
      · rename_i hl
        refine ⟨tS K nm ⟨ι, H, fun x S' => ∀ cls d ι' H', Rel K nm ι' S' H' → Ex' ι H ι' H' → ExcR K nm nms ι' H' x cls d → E cls d H'⟩ (exs (run t.tab G k) G d.fn.body), ?_, ?_⟩
        · refine sSs (c := ⟨d.N, nms, fl⟩) d.fn.body ⟨⟨rfl, ok.sc.nd, ?_, W.glo, fun f' hf' => ?_, W.blt, ?_⟩, ⟨rfl, rfl, ok.sc.kind⟩, fun x hx => ⟨locB_ok hx, .inl rfl⟩, ?_⟩ ok.ck
          · have := hr.un
            show (A.deeper (PyProof.Rows.envOfC (nms f) (defScope d.st) s.heap.objs.size a cdv)).units + 70 < cLine
            omega
          · obtain ⟨d', hd'⟩ := W.on f' hf'
            obtain ⟨a', fd', h1, F', h4, h5⟩ := W.fns f' d' hd'
            exact ⟨a', fd', d'.ps, k, h1, F'.kp, def_ok W k f' d' hd' a' fd' F', hr, h4, h5⟩
          · refine passes_call (W := fun cls d _ H => E cls d H) (takes_of rfl rfl rfl rfl) fun cls dd σ H' h => ?_
            obtain ⟨x, S', ι', hx, r', e', xr⟩ := h
            exact hx cls dd ι' H' r' e' xr
          · exact passes_of rfl
        · have hpl : vs.length ≤ d.N.length := by
            have := congrArg List.length ok.sc.pre
            rw [List.length_take] at this
            rw [r.length, hl, ok.ps]
            omega
          refine ⟨ι, S, startD d.fn.ps d.fn.sl ds, ⟨rel, .refl, ?_, start_at r hl ok.sl⟩, ?_⟩
          · rw [start_len hpl]
            unfold startD
            rw [List.length_append, List.length_map, List.length_replicate, ok.sl]
            rw [r.length, hl] at hpl
            omega
          · revert z
            cases exs (run t.tab G k) G d.fn.body (startD d.fn.ps d.fn.sl ds) S with
            | next ρ S1 => exact fun z σ ι' H' st e => z _ ι' H' st.rel e rfl
            | brk ρ S1 => exact fun z => z.elim
            | cont ρ S1 => exact fun z => z.elim
            | ret x S1 => exact fun z => z
            | exc x S1 => exact fun z => z
            | bad => exact fun z => z
      · exact z.elim
end
end Pl

set_option maxHeartbeats 4000000
/-! From the head's facts to the law. -/
namespace Pl
open PySem L2
def BindP (d : Dn) (x : Str) : Prop := ∀ (kV doc pm : Value) (an : Option Addr) (cdv ct : Value) (us : List Value), us.length = d.ps.length → bindArgs (PySem.W.fnOf x x (defArgs d.st) (defBody d.st) (defScope d.st) .none kV doc pm an cdv ct) ⟨us, []⟩ = pure (d.ps.zip us)
def KwP (d : Dn) (x : Str) (n : Nat) (ks : List Str) (perm : List Nat) : Prop := ∀ (kV doc pm : Value) (an : Option Addr) (cdv ct : Value) (us ws : List Value), us.length = n → ws.length = ks.length →
  bindArgs (PySem.W.fnOf x x (defArgs d.st) (defBody d.st) (defScope d.st) .none kV doc pm an cdv ct) ⟨us, ks.zip ws⟩ = pure (d.ps.zip (permL perm (us ++ ws)))
/-- a law's text: its defs, names, calls by name, constants -/
structure Lw where
  dl : List Dn
  nl : List Str
  kwl : List (Nat × Nat × List Str × List Nat)
  gvl : List (Nat × D)
namespace Lw
variable (L : Lw)
def nms (n : Nat) : Str := L.nl.getD n ""
def tab : DT := fun f => L.dl[f]?
def flo : Fl := ⟨fun f => decide (f < L.dl.length), fun f n ks perm => L.kwl.any fun q => decide (q = (f, n, ks, perm))⟩
def G (n : Nat) : Option D := match L.gvl.find? fun q => q.1 == n with
  | some q => some q.2
  | none => none
def gFa (q : Nat × D) : He.Fa := match q.2 with
  | .int i => .int (L.nms q.1) i
  | .str x => .str (L.nms q.1) (strOf x)
  | _ => .free (L.nms q.1)
def gOk (q : Nat × D) : Bool := match q.2 with
  | .int i => true
  | .str x => true
  | _ => false
def fn : List He.DefD := (List.range L.dl.length).filterMap fun i => (L.dl[i]?).map fun d => ⟨(L.nms i, none), L.nms i, L.nms i, defArgs d.st, defBody d.st, defScope d.st, [], []⟩
def fa : List He.Fa := ((List.range L.dl.length).map fun i => .glo (L.nms i)) ++ blts.map .free ++ L.gvl.map L.gFa
structure Ok : Prop where
  ok : (L.dl.all fun d => d.ok L.nms L.flo) = true
  g : L.gvl.all gOk = true
  bd : ∀ (f : Nat) (d : Dn), L.dl[f]? = some d → BindP d (L.nms f)
  kb : ∀ (f : Nat) (d : Dn), L.dl[f]? = some d → ∀ q ∈ L.kwl, q.1 = f → KwP d (L.nms f) q.2.1 q.2.2.1 q.2.2.2
end Lw
section
variable {L : Lw} {K : PySem.W.Frag} {h : Heap} {mg : Str → Option Value}
theorem permL_vals {xs : List V} {us : List Value} (r : Vals xs us) : ∀ perm : List Nat, Vals (permL perm xs) (permL perm us)
  | [] => .nil
  | i :: is => by
    have ih := permL_vals r is
    unfold permL at ih ⊢
    rw [List.filterMap_cons, List.filterMap_cons]
    cases q : xs[i]? with
    | none =>
      have : us[i]? = none := by
        rw [List.getElem?_eq_none_iff] at q ⊢
        rw [← r.length]
        exact q
      rw [this]
      exact ih
    | some d =>
      obtain ⟨v, h1, h2⟩ := r.get q
      rw [h1]
      exact .cons h2 ih
theorem vals_app {xs ys : List V} {us ws : List Value} (r : Vals xs us) (r2 : Vals ys ws) : Vals (xs ++ ys) (us ++ ws) := r.append r2
theorem fact_of {fa : List He.Fa} {fn : List He.DefD} (c : He.SaysD fa fn K) {f : He.Fa} (hf : f ∈ fa) : f.ok K = true := by
  have c1 := (He.ba (show ((fa.all fun f => f.ok K) && fn.all fun d => d.ok K) = true from congrArg (fun z : He.AlD => z.1) c)).1
  exact List.all_eq_true.mp c1 f hf
theorem wd_of (o : L.Ok) (X : K.In h) (Gm : h.Ns mainGlobals mg) (c : He.SaysD L.fa L.fn K) : Wd K mg (fun n => He.ga K (L.nms n)) L.nms L.tab L.flo L.G := by
  have gl : ∀ f d, L.dl[f]? = some d → mg (L.nms f) = some (.ref (He.ga K (L.nms f))) := fun f d hd => by
    refine He.glo_ok X Gm (fact_of c ?_)
    have : f < L.dl.length := (List.getElem?_eq_some_iff.mp hd).1
    exact List.mem_append_left _ (List.mem_append_left _ (List.mem_map.mpr ⟨f, List.mem_range.mpr this, rfl⟩))
  refine ⟨fun f d hd => ?_, fun f hf => ?_, fun f d hd => ?_, fun n d hn => ?_, fun x hx => ?_⟩
  · have hd' : L.dl[f]? = some d := hd
    have hl : f < L.dl.length := (List.getElem?_eq_some_iff.mp hd').1
    have hm : (⟨(L.nms f, none), L.nms f, L.nms f, defArgs d.st, defBody d.st, defScope d.st, [], []⟩ : He.DefD) ∈ L.fn := by
      unfold Lw.fn
      exact List.mem_filterMap.mpr ⟨f, List.mem_range.mpr hl, by rw [hd']; rfl⟩
    obtain ⟨i, hi⟩ := List.getElem?_of_mem hm
    obtain ⟨fd, F⟩ := c.def_ i hi
    refine ⟨_, fd, gl f d hd', F, ?_, fun n ks perm hk => ?_⟩
    · exact FunD.bindsN F (o.bd f d hd')
    · unfold Lw.flo at hk
      simp only [List.any_eq_true, decide_eq_true_eq] at hk
      obtain ⟨q, hq, rfl⟩ := hk
      have kp := o.kb f d hd' _ hq rfl
      have F' := F
      obtain ⟨oc, od, dV, kV, doc, pm, an, cdv, ct, osl, rfl, lk, hcd, hD, hK⟩ := F.ex
      rcases hD with ⟨_, rfl⟩ | ⟨e, _⟩
      · exact ⟨fun s us ws _ l1 l2 => .of_eq (kp kV doc pm an cdv ct us ws l1 l2), fun r1 r2 => permL_vals (vals_app r1 r2) perm⟩
      · exact absurd rfl e
  · have hf' : f < L.dl.length := by simpa [Lw.flo] using hf
    exact ⟨L.dl[f], List.getElem?_eq_getElem hf'⟩
  · exact Dn.ok_ok (List.all_eq_true.mp o.ok d (List.mem_of_getElem? hd))
  · unfold Lw.G at hn
    split at hn <;> first | cases hn; done | skip
    rename_i q hq
    cases hn
    have hm := List.mem_of_find?_eq_some hq
    have he : q.1 = n := by simpa using List.find?_some hq
    obtain ⟨m, d⟩ := q
    obtain rfl : m = n := he
    have ok := List.all_eq_true.mp o.g _ hm
    have fk := fact_of c (f := L.gFa (m, d)) (List.mem_append_right _ (List.mem_map.mpr ⟨_, hm, rfl⟩))
    cases d <;> first | cases ok; done | skip
    · rename_i i
      obtain ⟨t, ht⟩ := He.int_ok X Gm fk
      exact ⟨_, .int i, ht, ⟨t, rfl⟩, fun ι H => rfl⟩
    · rename_i x
      obtain ⟨t, ht⟩ := He.str_ok X Gm fk
      exact ⟨_, .str (strOf x), ht, ⟨t, rfl⟩, fun ι H => rfl⟩
  · exact He.free_ok X Gm (fact_of c (List.mem_append_left _ (List.mem_append_right _ (List.mem_map.mpr ⟨x, hx, rfl⟩))))
/-- nothing is let out -/
theorem FnOk.still {P : Program} {w : World} {base : Heap} {k : Nat} {f : Addr} {fd : FuncData} {ps : List Str} {sp : Sp} (F : FnOk P w K mg base (L2.CX P w) k f fd ps sp) : FnOk P w K mg base CX0 k f fd ps (fun vs H Q E => E = E0 ∧ sp vs H Q E) :=
  ⟨fun vs H Q E h => F.len vs H Q E h.2, fun A outer s H args us vs Q E hr he hb hv h => by
    obtain ⟨rfl, h⟩ := h
    refine codeAny_mono (F.run A outer s H args us vs Q E0 hr he hb hv h) fun r s' hq => ?_
    cases r with
    | error e =>
      obtain ⟨_, _, _, _, _, _, _, _, _, _, _, _, z⟩ := hq
      exact z.elim
    | ok fl => cases fl <;> exact hq⟩
theorem ints_rep {nm : Nat → Addr} {ι : List Addr} {H : Hp} : ∀ ns : List Int, Reps K nm ι H (ns.map D.int) (ns.map V.int)
  | [] => rfl
  | n :: ns => ⟨_, _, rfl, rfl, ints_rep ns⟩
theorem sqf_of {H : Hp} {a : Addr} {xs : List V} (o : Only H) (h : SqL K H a xs) : SqF K H a xs := by
  rcases h with (h | ⟨b, h⟩) | h
  · rcases o a with q | ⟨b, ys, q⟩ <;> (rw [q] at h; cases h)
  · exact .inl ⟨b, h⟩
  · exact .inr (.inr h)
/-- what a law has to do -/
def Lw.Law (L : Lw) (k f : Nat) : Prop := ∀ ns : List Int, ns.length ≤ 63 → ∃ S', run L.tab.tab L.G k f [.fro (ns.map D.int)] [] = .ok (.bl true) S'
theorem law_fn {P : Program} {w : World} {f : Nat} {d : Dn} {x : Str} (o : L.Ok) (X : K.In h) (Gm : h.Ns mainGlobals mg) (c : He.SaysD L.fa L.fn K) (hd : L.dl[f]? = some d) (hp : d.ps = [x]) (k : Nat) (lw : L.Law k f) {fa : Addr} (hfa : mg (L.nms f) = some (.ref fa)) :
    ∃ fd sp, (∀ (s : Shared) (u : Value), BindsTo s fd ⟨[u], []⟩ [(x, u)]) ∧ (∀ (H : Hp) (a : Addr) (ns : List Int), ns.length ≤ 63 → Only H → SqL K H a (ns.map V.int) → sp [.ref a] H (fun v _ => v = .bl true) E0) ∧
      ∀ base : Heap, K.In base → base.Ns mainGlobals mg → FnOk P w K mg base CX0 k fa fd [x] sp := by
  have W := wd_of o X Gm c
  obtain ⟨a, fd, hm, F, hb, _⟩ := W.fns f d hd
  have hl : f < L.dl.length := (List.getElem?_eq_some_iff.mp hd).1
  have hm2 := He.glo_ok X Gm (fact_of c (f := .glo (L.nms f)) (List.mem_append_left _ (List.mem_append_left _ (List.mem_map.mpr ⟨f, List.mem_range.mpr hl, rfl⟩))))
  have ea : a = fa := by
    rw [hm] at hfa
    cases hfa
    rfl
  subst ea
  refine ⟨fd, fun vs H Q E => E = E0 ∧ spF K (fun n => He.ga K (L.nms n)) L.nms (run L.tab.tab L.G k f) vs H Q E, fun s u => ?_, fun H a ns hn oh hS => ⟨rfl, [], [], [.fro (ns.map D.int)], ⟨rfl, .nil, fun i a o h => by cases h⟩, ?_, ?_⟩, fun base hK hG => ?_⟩
  · have := FunD.bindsA (ps := d.ps) F (o.bd f d hd) s [u] (by rw [hp] <;> rfl)
    rw [hp] at this
    exact this
  · exact ⟨_, _, rfl, ⟨a, _, rfl, sqf_of oh hS, ints_rep ns⟩, rfl⟩
  · obtain ⟨S', e⟩ := lw ns hn
    rw [e]
    exact fun v ι' H' r' e' p => by cases p; rfl
  · have := FnOk.still (def_ok (P := P) (w := w) (base := base) W k f d hd _ fd F)
    rw [hp] at this
    exact this
end
end Pl

set_option maxHeartbeats 4000000
/-! Plain laws about Pl's run: the drawing from the script, the likeness of values. -/
namespace Pl
open PySem L2
def Wr {α : Type} (r : R α) (P : α → Sto → Prop) : Prop := match r with
  | .ok a S => P a S
  | _ => False
section
variable {α β : Type} {r : R α} {P P' : α → Sto → Prop}
@[simp] theorem wr_ok {a : α} {S : Sto} : Wr (.ok a S) P = P a S := rfl
@[simp] theorem wr_bad : Wr (.bad : R α) P = False := rfl
theorem wr_bind {f : α → Sto → R β} {P : β → Sto → Prop} : Wr (r.bind f) P = Wr r (fun a S => Wr (f a S) P) := by cases r <;> rfl
theorem wr_nox : Wr r.nox P = Wr r P := by cases r <;> rfl
theorem Wr.mono (h : Wr r P) (k : ∀ a S, P a S → P' a S) : Wr r P' := by
  cases r with
  | ok a S => exact k a S h
  | exc x S => exact h
  | bad => exact h
theorem Wr.ok (h : Wr r P) : ∃ a S, r = .ok a S ∧ P a S := by
  cases r with
  | ok a S => exact ⟨a, S, rfl, h⟩
  | exc x S => exact h.elim
  | bad => exact h.elim
structure Ed where
  nx : Slo → Sto → Prop
  bk : Slo → Sto → Prop
  ct : Slo → Sto → Prop
  rt : D → Sto → Prop
def Wt (o : O) (E : Ed) : Prop := match o with
  | .next ρ S => E.nx ρ S
  | .brk ρ S => E.bk ρ S
  | .cont ρ S => E.ct ρ S
  | .ret d S => E.rt d S
  | _ => False
variable {o : O} {E : Ed} {ρ : Slo} {S : Sto}
@[simp] theorem wt_next : Wt (.next ρ S) E = E.nx ρ S := rfl
@[simp] theorem wt_brk : Wt (.brk ρ S) E = E.bk ρ S := rfl
@[simp] theorem wt_cont : Wt (.cont ρ S) E = E.ct ρ S := rfl
@[simp] theorem wt_ret {d : D} : Wt (.ret d S) E = E.rt d S := rfl
@[simp] theorem wt_bad : Wt .bad E = False := rfl
theorem wt_o {f : α → Sto → O} : Wt (r.o f) E = Wr r (fun a S => Wt (f a S) E) := by cases r <;> rfl
theorem wt_seq {f : Slo → Sto → O} : Wt (o.seq f) E = Wt o ⟨fun ρ S => Wt (f ρ S) E, E.bk, E.ct, E.rt⟩ := by cases o <;> rfl
theorem wt_turn {f : Slo → Sto → O} : Wt (o.turn f) E = Wt o ⟨fun ρ S => Wt (f ρ S) E, E.nx, fun ρ S => Wt (f ρ S) E, E.rt⟩ := by cases o <;> rfl
def no2 {α β : Type} : α → β → Prop := fun _ _ => False
theorem wr_ret {P : D → Sto → Prop} : Wr o.ret? P = Wt o ⟨fun _ S => P .non S, no2, no2, P⟩ := by cases o <;> rfl
theorem Wt.mono {E' : Ed} (h : Wt o E) (h1 : ∀ ρ S, E.nx ρ S → E'.nx ρ S) (h2 : ∀ ρ S, E.bk ρ S → E'.bk ρ S) (h3 : ∀ ρ S, E.ct ρ S → E'.ct ρ S) (h4 : ∀ d S, E.rt d S → E'.rt d S) : Wt o E' := by
  cases o with
  | next ρ S => exact h1 _ _ h
  | brk ρ S => exact h2 _ _ h
  | cont ρ S => exact h3 _ _ h
  | ret d S => exact h4 _ _ h
  | exc x S => exact h
  | bad => exact h
end
theorem run_succ {T : Tab} {G : Nat → Option D} {k f : Nat} {ds : List D} {S : Sto} {fn : Fn} (h : T f = some fn) : run T G (k + 1) f ds S = runF (run T G k) G fn ds S := by
  show (match T f with | some fn => _ | none => _) = _
  rw [h]
theorem wr_run {T : Tab} {G : Nat → Option D} {k f : Nat} {ds : List D} {S : Sto} {fn : Fn} {P : D → Sto → Prop} (h : T f = some fn) (hl : ds.length = fn.ps) : Wr (run T G (k + 1) f ds S) P = Wt (exs (run T G k) G fn.body (startD fn.ps fn.sl ds) S) ⟨fun _ S => P .non S, no2, no2, P⟩ := by
  rw [run_succ h]
  unfold runF
  rw [if_pos hl, wr_ret]
theorem wt_cons {C : Nat → List D → Sto → R D} {G : Nat → Option D} {s : Sm} {r : List Sm} {ρ : Slo} {S : Sto} {E : Ed} : Wt (exs C G (s :: r) ρ S) E = Wt (ex C G s ρ S) ⟨fun ρ S => Wt (exs C G r ρ S) E, E.bk, E.ct, E.rt⟩ := by
  simp only [exs]
  rw [wt_seq]
theorem wt_nil {C : Nat → List D → Sto → R D} {G : Nat → Option D} {ρ : Slo} {S : Sto} {E : Ed} : Wt (exs C G [] ρ S) E = E.nx ρ S := rfl
def isNn : D → Bool
  | .non => true
  | _ => false
section
variable {i j : Int} {S : Sto} {a b : Bool}
theorem v_add : binV .add (.int i) (.int j) S = .ok (.int (i + j)) S := rfl
theorem v_sub : binV .sub (.int i) (.int j) S = .ok (.int (i - j)) S := rfl
theorem v_mul (h : -9223372036854775808 < j) (h2 : j < 9223372036854775808) : binV .mul (.int i) (.int j) S = .ok (.int (i * j)) S := by
  show (if j.natAbs < 2 ^ 63 then R.ok (D.int (i * j)) S else .bad) = _
  rw [if_pos (by omega)]
theorem v_fdiv (h : 0 < j) (h2 : j < 1073741824) : binV .fdiv (.int i) (.int j) S = .ok (.int (i / j)) S := by
  show (if 0 < j ∧ j < 2 ^ 30 then R.ok (D.int (i / j)) S else .bad) = _
  rw [if_pos (by omega)]
theorem v_mod (h : 0 < j) : binV .mod (.int i) (.int j) S = .ok (.int (i % j)) S := by
  show (if 0 < j then R.ok (D.int (i % j)) S else .bad) = _
  rw [if_pos h]
theorem v_pow18 : binV .pow (.int 10) (.int 18) S = .ok (.int 1000000000000000000) S := by
  show (if 0 ≤ (18 : Int) ∧ (18 : Int) ≤ 1000 ∧ (10 : Int).natAbs < 2 ^ 62 then R.ok (D.int ((10 : Int) ^ (18 : Int).toNat)) S else .bad) = _
  rw [if_pos (by decide)]
  rfl
theorem a_add : augV .add (.int i) (.int j) S = .ok (.int (i + j)) S := rfl
theorem c_gt : cmpV .gt (.int i) (.int j) S = .ok (.bl (decide (j < i))) S := rfl
theorem c_lt : cmpV .lt (.int i) (.int j) S = .ok (.bl (decide (i < j))) S := rfl
theorem c_ge : cmpV .ge (.int i) (.int j) S = .ok (.bl (decide (j ≤ i))) S := rfl
theorem c_le : cmpV .le (.int i) (.int j) S = .ok (.bl (decide (i ≤ j))) S := rfl
theorem c_eqi : cmpV .eq (.int i) (.int j) S = .ok (.bl (decide (i = j))) S := by
  show R.ok (D.bl (decide (i = j) ^^ false)) S = _
  rw [Bool.xor_false]
theorem c_eqb : cmpV .eq (.bl a) (.bl b) S = .ok (.bl (decide (a = b))) S := by
  show R.ok (D.bl (decide (a = b) ^^ false)) S = _
  rw [Bool.xor_false]
theorem c_neb : cmpV .ne (.bl a) (.bl b) S = .ok (.bl (!decide (a = b))) S := by
  show R.ok (D.bl (decide (a = b) ^^ true)) S = _
  rw [Bool.xor_true]
theorem c_eqs {x y : List Nat} : cmpV .eq (.str x) (.str y) S = .ok (.bl (decide (x = y))) S := by
  show R.ok (D.bl (decide (x = y) ^^ false)) S = _
  rw [Bool.xor_false]
theorem c_isN {d : D} : cmpV .isN d .non S = .ok (.bl (isNn d)) S := rfl
theorem c_notN {d : D} : cmpV .notN d .non S = .ok (.bl (!isNn d)) S := by cases d <;> rfl
theorem len_lst {n : Nat} {ds : List D} (h : S[n]? = some (.lst ds)) : lenV (.ref n) S = .ok (.int ds.length) S := by
  unfold lenV
  simp only [h]
theorem len_str {x : List Nat} (h : x.length ≤ lim) : lenV (.str x) S = .ok (.int x.length) S := by
  unfold lenV
  simp only [if_pos h]
end
theorem getIV_go {S : Sto} {n : Nat} {ds : List D} {i : Int} {d : D} (h : S[n]? = some (.lst ds)) (h0 : 0 ≤ i) (hd : ds[i.toNat]? = some d) : getIV (.ref n) (.int i) S = .ok d S := by
  unfold getIV
  simp only [h, if_pos h0, hd]
theorem ixN_go {n : Nat} {i : Int} (h0 : 0 ≤ i) (h1 : i < n) : L2.ixN n i = some i.toNat := by
  unfold L2.ixN
  rw [if_pos h0, if_pos h1]
theorem atI_go {α : Type} {xs : List α} {i : Int} {d : α} (h0 : 0 ≤ i) (hd : xs[i.toNat]? = some d) : L2.atI xs i = some d := by
  unfold L2.atI
  have : i.toNat < xs.length := (List.getElem?_eq_some_iff.mp hd).1
  rw [ixN_go h0 (by omega)]
  exact hd
theorem atI_in {α : Type} {xs : List α} {i : Int} (h0 : 0 ≤ i) (h1 : i < xs.length) : ∃ d, L2.atI xs i = some d ∧ xs[i.toNat]? = some d := by
  have : i.toNat < xs.length := by omega
  exact ⟨xs[i.toNat], atI_go h0 (List.getElem?_eq_getElem this), List.getElem?_eq_getElem this⟩
theorem idxV_lst {S : Sto} {n : Nat} {ds : List D} {i : Int} {d : D} (h : S[n]? = some (.lst ds)) (hd : L2.atI ds i = some d) : idxV (.ref n) (.int i) S = .ok d S := by
  unfold idxV
  simp only [h, hd]
theorem setIV_go {S : Sto} {n : Nat} {ds : List D} {i : Int} {d : D} (h : S[n]? = some (.lst ds)) (h0 : 0 ≤ i) (h1 : i < ds.length) : setIV (.ref n) (.int i) d S = .ok () (S.set n (.lst (ds.set i.toNat d))) := by
  unfold setIV
  simp only [h, ixN_go h0 h1]
/-! ### the bag -/
def b_pull : List Sm := [
  .augI .add (.var 0) (.cst (.int 4)) (.cst (.int 1)),
  .if_ (.cmp .gt (.idx (.var 0) (.cst (.int 2))) (.cst (.int 0))) [.asg 5 (.idx (.var 0) (.cst (.int 2))), .setI (.var 0) (.cst (.int 2)) (.bin .fdiv (.var 5) (.var 1)), .ret (.bin .mod (.var 5) (.var 1))] [],
  .asg 2 (.idx (.var 0) (.cst (.int 3))),
  .if_ (.cmp .lt (.idx (.var 0) (.cst (.int 1))) (.len (.idx (.var 0) (.cst (.int 0))))) [.asg 2 (.idx (.idx (.var 0) (.cst (.int 0))) (.idx (.var 0) (.cst (.int 1)))), .augI .add (.var 0) (.cst (.int 1)) (.cst (.int 1))] [],
  .if_ (.cmp .ge (.var 2) (.bin .pow (.cst (.int 10)) (.cst (.int 18)))) [.setI (.var 0) (.cst (.int 2)) (.bin .fdiv (.var 2) (.var 1)), .ret (.bin .mod (.var 2) (.var 1))] [],
  .asg 3 (.bin .mod (.bin .add (.bin .add (.bin .add (.bin .mul (.var 2) (.cst (.int 48271))) (.bin .mul (.idx (.var 0) (.cst (.int 3))) (.cst (.int 40503)))) (.bin .mul (.idx (.var 0) (.cst (.int 4))) (.cst (.int 69621)))) (.cst (.int 12345))) (.cst (.int 2147483629))),
  .asg 4 (.bin .mod (.bin .add (.bin .add (.bin .mul (.var 3) (.bin .add (.bin .mod (.var 3) (.cst (.int 65521))) (.cst (.int 11)))) (.bin .mul (.idx (.var 0) (.cst (.int 4))) (.cst (.int 40692)))) (.bin .mod (.idx (.var 0) (.cst (.int 3))) (.cst (.int 104729)))) (.cst (.int 998244353))),
  .setI (.var 0) (.cst (.int 3)) (.bin .mod (.bin .add (.bin .mul (.idx (.var 0) (.cst (.int 3))) (.cst (.int 16807))) (.var 4)) (.cst (.int 2147483563))),
  .ret (.bin .mod (.bin .fdiv (.var 4) (.cst (.int 7))) (.var 1))]
structure BagAt (S : Sto) (b c : Nat) (ns : List Int) (i1 i2 i3 i4 : Int) : Prop where
  nx : c + 1 = b
  at_ : S[b]? = some (.lst [.ref c, .int i1, .int i2, .int i3, .int i4])
  in_ : S[c]? = some (.lst (ns.map D.int))
  nn : 0 ≤ i1
def Bag (S : Sto) (b : Nat) : Prop := ∃ c ns i1 i2 i3 i4, BagAt S b c ns i1 i2 i3 i4
theorem BagAt.put {S : Sto} {b c : Nat} {ns : List Int} {i1 i2 i3 i4 j1 j2 j3 j4 : Int} (h : BagAt S b c ns i1 i2 i3 i4) (hj : 0 ≤ j1) : BagAt (S.set b (.lst [.ref c, .int j1, .int j2, .int j3, .int j4])) b c ns j1 j2 j3 j4 := by
  have hl : b < S.length := (List.getElem?_eq_some_iff.mp h.at_).1
  refine ⟨h.nx, ?_, ?_, hj⟩
  · rw [List.getElem?_set_self hl]
  · rw [List.getElem?_set_ne (by have := h.nx; omega)]
    exact h.in_
/-- beside the bag all stands -/
def Frm (b : Nat) (S S' : Sto) : Prop := S.length ≤ S'.length ∧ ∀ i, i < S.length → i ≠ b → S'[i]? = S[i]?
theorem Frm.refl {b : Nat} {S : Sto} : Frm b S S := ⟨Nat.le_refl _, fun _ _ _ => rfl⟩
theorem Frm.trans {b : Nat} {S S1 S2 : Sto} (h : Frm b S S1) (k : Frm b S1 S2) : Frm b S S2 := ⟨Nat.le_trans h.1 k.1, fun i hi hn => (k.2 i (Nat.lt_of_lt_of_le hi h.1) hn).trans (h.2 i hi hn)⟩
theorem Frm.put {b : Nat} {S : Sto} {x : Ob} : Frm b S (S.set b x) := ⟨by simp, fun i _ hn => List.getElem?_set_ne (Ne.symm hn)⟩
theorem Frm.new {b : Nat} {S : Sto} {x : Ob} : Frm b S (S ++ [x]) := ⟨by simp, fun i hi _ => List.getElem?_append_left hi⟩
theorem Frm.at_ {b i : Nat} {S S' : Sto} {x : Ob} (f : Frm b S S') (h : S[i]? = some x) (hn : i ≠ b) : S'[i]? = some x := by
  rw [f.2 i (List.getElem?_eq_some_iff.mp h).1 hn]
  exact h
theorem Bag.new {b : Nat} {S : Sto} {x : Ob} (h : Bag S b) : Bag (S ++ [x]) b := by
  obtain ⟨c, ns, i1, i2, i3, i4, h1, h2, h3, h4⟩ := h
  exact ⟨c, ns, i1, i2, i3, i4, h1, by rw [List.getElem?_append_left (List.getElem?_eq_some_iff.mp h2).1]; exact h2, by rw [List.getElem?_append_left (List.getElem?_eq_some_iff.mp h3).1]; exact h3, h4⟩
theorem Bag.set {b n : Nat} {S : Sto} {x : Ob} (h : Bag S b) (hn : b < n) : Bag (S.set n x) b := by
  obtain ⟨c, ns, i1, i2, i3, i4, h1, h2, h3, h4⟩ := h
  exact ⟨c, ns, i1, i2, i3, i4, h1, by rw [List.getElem?_set_ne (by omega)]; exact h2, by rw [List.getElem?_set_ne (by omega)]; exact h3, h4⟩
theorem Bag.lt {b : Nat} {S : Sto} (h : Bag S b) : b < S.length := by
  obtain ⟨c, ns, i1, i2, i3, i4, h1, h2, h3, h4⟩ := h
  exact (List.getElem?_eq_some_iff.mp h2).1
section
variable {T : Tab} {G : Nat → Option D} {C : Nat → List D → Sto → R D}
theorem pull_body {b : Nat} {m : Int} {S : Sto} {E : Ed} (hb : Bag S b) (hm : 0 < m) (hm2 : m < 2 ^ 30) (h : ∀ r S', 0 ≤ r → r < m → Bag S' b → Frm b S S' → E.rt (.int r) S') : Wt (exs C G b_pull [some (.ref b), some (.int m), none, none, none, none] S) E := by
  obtain ⟨c, ns, i1, i2, i3, i4, hb⟩ := hb
  have hm3 : (0 : Int) < m ∧ m < 1073741824 := ⟨hm, by simpa using hm2⟩
  have hmo : ∀ x : Int, 0 ≤ x % m ∧ x % m < m := fun x => ⟨Int.emod_nonneg _ (by omega), Int.emod_lt_of_pos _ hm⟩
  unfold b_pull
  have g4 : getIV (.ref b) (.int 4) S = .ok (.int i4) S := getIV_go hb.at_ (by decide) rfl
  have s4 : ∀ d, setIV (.ref b) (.int 4) d S = .ok () (S.set b (.lst [.ref c, .int i1, .int i2, .int i3, d])) := fun d => setIV_go hb.at_ (by decide) (by show (4 : Int) < 5; decide)
  have B1 : BagAt (S.set b (.lst [.ref c, .int i1, .int i2, .int i3, .int (i4 + 1)])) b c ns i1 i2 i3 (i4 + 1) := hb.put hb.nn
  have F1 : Frm b S (S.set b (.lst [.ref c, .int i1, .int i2, .int i3, .int (i4 + 1)])) := Frm.put
  rw [wt_cons]
  simp only [ev, evs, evo, evT, evto, evF, evQ, evI, ex, wr_bind, wr_ok, wt_o, wt_seq, wt_turn, wt_next, wt_brk, wt_cont, wt_ret, R.bind_ok, R.o_ok, List.getElem?_cons_zero, List.getElem?_cons_succ, List.set_cons_zero, List.set_cons_succ, g4, s4, a_add]
  generalize S.set b (.lst [.ref c, .int i1, .int i2, .int i3, .int (i4 + 1)]) = S1 at B1 F1
  have gx : ∀ {S : Sto} {i1 i2 i3 i4 : Int}, BagAt S b c ns i1 i2 i3 i4 → (idxV (.ref b) (.int 0) S = .ok (.ref c) S) ∧ (idxV (.ref b) (.int 1) S = .ok (.int i1) S) ∧ (idxV (.ref b) (.int 2) S = .ok (.int i2) S) ∧ (idxV (.ref b) (.int 3) S = .ok (.int i3) S) ∧ (idxV (.ref b) (.int 4) S = .ok (.int i4) S) ∧ lenV (.ref c) S = .ok (.int ns.length) S ∧
      (∀ d, setIV (.ref b) (.int 2) d S = .ok () (S.set b (.lst [.ref c, .int i1, d, .int i3, .int i4]))) ∧ (∀ d, setIV (.ref b) (.int 3) d S = .ok () (S.set b (.lst [.ref c, .int i1, .int i2, d, .int i4]))) := fun {S} {i1} {i2} {i3} {i4} h => by
    refine ⟨idxV_lst h.at_ rfl, idxV_lst h.at_ rfl, idxV_lst h.at_ rfl, idxV_lst h.at_ rfl, idxV_lst h.at_ rfl, ?_, fun d => setIV_go h.at_ (by decide) (by show (2 : Int) < 5; decide), fun d => setIV_go h.at_ (by decide) (by show (3 : Int) < 5; decide)⟩
    rw [len_lst h.in_, List.length_map]
  rw [wt_cons]
  obtain ⟨y0, y1, y2, y3, y4, yl, z2, z3⟩ := gx B1
  simp only [ev, evs, evo, evT, evto, evF, evQ, evI, ex, wr_bind, wr_ok, wt_o, wt_seq, wt_turn, wt_next, wt_brk, wt_cont, wt_ret, R.bind_ok, R.o_ok, List.getElem?_cons_zero, List.getElem?_cons_succ, List.set_cons_zero, List.set_cons_succ, y2, c_gt]
  by_cases h2 : 0 < i2
  · simp only [h2, decide_true]
    rw [wt_cons]
    simp only [ev, evs, evo, evT, evto, evF, evQ, evI, ex, wr_bind, wr_ok, wt_o, wt_seq, wt_turn, wt_next, wt_brk, wt_cont, wt_ret, R.bind_ok, R.o_ok, List.getElem?_cons_zero, List.getElem?_cons_succ, List.set_cons_zero, List.set_cons_succ, y2]
    rw [wt_cons]
    simp only [ev, evs, evo, evT, evto, evF, evQ, evI, ex, wr_bind, wr_ok, wt_o, wt_seq, wt_turn, wt_next, wt_brk, wt_cont, wt_ret, R.bind_ok, R.o_ok, List.getElem?_cons_zero, List.getElem?_cons_succ, List.set_cons_zero, List.set_cons_succ, v_fdiv hm3.1 hm3.2, z2]
    rw [wt_cons]
    simp only [ev, evs, evo, evT, evto, evF, evQ, evI, ex, wr_bind, wr_ok, wt_o, wt_seq, wt_turn, wt_next, wt_brk, wt_cont, wt_ret, R.bind_ok, R.o_ok, List.getElem?_cons_zero, List.getElem?_cons_succ, List.set_cons_zero, List.set_cons_succ, v_mod hm3.1]
    exact h _ _ (hmo _).1 (hmo _).2 ⟨_, _, _, _, _, _, B1.put B1.nn⟩ (F1.trans Frm.put)
  simp only [h2, decide_false]
  rw [wt_nil]
  simp only [ev, evs, evo, evT, evto, evF, evQ, evI, ex, wr_bind, wr_ok, wt_o, wt_seq, wt_turn, wt_next, wt_brk, wt_cont, wt_ret, R.bind_ok, R.o_ok, List.getElem?_cons_zero, List.getElem?_cons_succ, List.set_cons_zero, List.set_cons_succ]
  rw [wt_cons]
  simp only [ev, evs, evo, evT, evto, evF, evQ, evI, ex, wr_bind, wr_ok, wt_o, wt_seq, wt_turn, wt_next, wt_brk, wt_cont, wt_ret, R.bind_ok, R.o_ok, List.getElem?_cons_zero, List.getElem?_cons_succ, List.set_cons_zero, List.set_cons_succ, y3]
  rw [wt_cons]
  simp only [ev, evs, evo, evT, evto, evF, evQ, evI, ex, wr_bind, wr_ok, wt_o, wt_seq, wt_turn, wt_next, wt_brk, wt_cont, wt_ret, R.bind_ok, R.o_ok, List.getElem?_cons_zero, List.getElem?_cons_succ, List.set_cons_zero, List.set_cons_succ, y1, y0, yl, c_lt]
  have rest : ∀ (S2 : Sto) (j1 cell : Int), BagAt S2 b c ns j1 i2 i3 (i4 + 1) → Frm b S S2 → Wt (exs C G (b_pull.drop 4) [some (.ref b), some (.int m), some (.int cell), none, none, none] S2) E := by
    intro S2 j1 cell B2 F2
    obtain ⟨y0, y1, y2, y3, y4, yl, z2, z3⟩ := gx B2
    simp only [b_pull, List.drop_succ_cons, List.drop_zero]
    rw [wt_cons]
    simp only [ev, evs, evo, evT, evto, evF, evQ, evI, ex, wr_bind, wr_ok, wt_o, wt_seq, wt_turn, wt_next, wt_brk, wt_cont, wt_ret, R.bind_ok, R.o_ok, List.getElem?_cons_zero, List.getElem?_cons_succ, List.set_cons_zero, List.set_cons_succ, v_pow18, c_ge]
    by_cases h3 : 1000000000000000000 ≤ cell
    · simp only [h3, decide_true]
      rw [wt_cons]
      simp only [ev, evs, evo, evT, evto, evF, evQ, evI, ex, wr_bind, wr_ok, wt_o, wt_seq, wt_turn, wt_next, wt_brk, wt_cont, wt_ret, R.bind_ok, R.o_ok, List.getElem?_cons_zero, List.getElem?_cons_succ, List.set_cons_zero, List.set_cons_succ, v_fdiv hm3.1 hm3.2, z2]
      rw [wt_cons]
      simp only [ev, evs, evo, evT, evto, evF, evQ, evI, ex, wr_bind, wr_ok, wt_o, wt_seq, wt_turn, wt_next, wt_brk, wt_cont, wt_ret, R.bind_ok, R.o_ok, List.getElem?_cons_zero, List.getElem?_cons_succ, List.set_cons_zero, List.set_cons_succ, v_mod hm3.1]
      exact h _ _ (hmo _).1 (hmo _).2 ⟨_, _, _, _, _, _, B2.put B2.nn⟩ (F2.trans Frm.put)
    simp only [h3, decide_false]
    rw [wt_nil]
    simp only [ev, evs, evo, evT, evto, evF, evQ, evI, ex, wr_bind, wr_ok, wt_o, wt_seq, wt_turn, wt_next, wt_brk, wt_cont, wt_ret, R.bind_ok, R.o_ok, List.getElem?_cons_zero, List.getElem?_cons_succ, List.set_cons_zero, List.set_cons_succ]
    rw [wt_cons]
    simp (disch := omega) only [ev, evs, evo, evT, evto, evF, evQ, evI, ex, wr_bind, wr_ok, wt_o, wt_seq, wt_turn, wt_next, wt_brk, wt_cont, wt_ret, R.bind_ok, R.o_ok, List.getElem?_cons_zero, List.getElem?_cons_succ, List.set_cons_zero, List.set_cons_succ, v_mul, v_add, v_mod, y3, y4]
    rw [wt_cons]
    generalize (cell * 48271 + i3 * 40503 + (i4 + 1) * 69621 + 12345) % 2147483629 = one
    simp (disch := omega) only [ev, evs, evo, evT, evto, evF, evQ, evI, ex, wr_bind, wr_ok, wt_o, wt_seq, wt_turn, wt_next, wt_brk, wt_cont, wt_ret, R.bind_ok, R.o_ok, List.getElem?_cons_zero, List.getElem?_cons_succ, List.set_cons_zero, List.set_cons_succ, v_mul, v_add, v_mod, y3, y4]
    rw [wt_cons]
    simp (disch := omega) only [ev, evs, evo, evT, evto, evF, evQ, evI, ex, wr_bind, wr_ok, wt_o, wt_seq, wt_turn, wt_next, wt_brk, wt_cont, wt_ret, R.bind_ok, R.o_ok, List.getElem?_cons_zero, List.getElem?_cons_succ, List.set_cons_zero, List.set_cons_succ, v_mul, v_add, v_mod, y3, y4, z3]
    rw [wt_cons]
    simp (disch := omega) only [ev, evs, evo, evT, evto, evF, evQ, evI, ex, wr_bind, wr_ok, wt_o, wt_seq, wt_turn, wt_next, wt_brk, wt_cont, wt_ret, R.bind_ok, R.o_ok, List.getElem?_cons_zero, List.getElem?_cons_succ, List.set_cons_zero, List.set_cons_succ, v_fdiv, v_mod]
    exact h _ _ (hmo _).1 (hmo _).2 ⟨_, _, _, _, _, _, B2.put B2.nn⟩ (F2.trans Frm.put)
  by_cases h4 : i1 < ns.length
  · simp only [h4, decide_true]
    obtain ⟨d, q1, q2⟩ := atI_in (xs := ns.map D.int) hb.nn (by simpa using h4)
    have q3 : idxV (.ref c) (.int i1) S1 = .ok d S1 := idxV_lst B1.in_ q1
    have q4 : ∃ n, d = .int n := by
      rw [List.getElem?_map] at q2
      cases e : ns[i1.toNat]? with
      | none => rw [e] at q2; cases q2
      | some n => rw [e] at q2; cases q2; exact ⟨n, rfl⟩
    obtain ⟨n, rfl⟩ := q4
    rw [wt_cons]
    simp only [ev, evs, evo, evT, evto, evF, evQ, evI, ex, wr_bind, wr_ok, wt_o, wt_seq, wt_turn, wt_next, wt_brk, wt_cont, wt_ret, R.bind_ok, R.o_ok, List.getElem?_cons_zero, List.getElem?_cons_succ, List.set_cons_zero, List.set_cons_succ, y0, y1, q3]
    rw [wt_cons]
    have g1 : getIV (.ref b) (.int 1) S1 = .ok (.int i1) S1 := getIV_go B1.at_ (by decide) rfl
    have s1 : ∀ d, setIV (.ref b) (.int 1) d S1 = .ok () (S1.set b (.lst [.ref c, d, .int i2, .int i3, .int (i4 + 1)])) := fun d => setIV_go B1.at_ (by decide) (by show (1 : Int) < 5; decide)
    simp only [ev, evs, evo, evT, evto, evF, evQ, evI, ex, wr_bind, wr_ok, wt_o, wt_seq, wt_turn, wt_next, wt_brk, wt_cont, wt_ret, R.bind_ok, R.o_ok, List.getElem?_cons_zero, List.getElem?_cons_succ, List.set_cons_zero, List.set_cons_succ, g1, a_add, s1]
    rw [wt_nil]
    have n1 := hb.nn
    exact rest _ _ _ (B1.put (j1 := i1 + 1) (by omega)) (F1.trans Frm.put)
  · simp only [h4, decide_false]
    rw [wt_nil]
    exact rest _ _ _ B1 F1
theorem pull_run {b f k : Nat} {m : Int} {S : Sto} {P : D → Sto → Prop} (hT : T f = some ⟨2, 6, b_pull⟩) (hb : Bag S b) (hm : 0 < m) (hm2 : m < 2 ^ 30) (h : ∀ r S', 0 ≤ r → r < m → Bag S' b → Frm b S S' → P (.int r) S') : Wr (run T G (k + 1) f [.ref b, .int m] S) P := by
  rw [wr_run hT rfl]
  exact pull_body hb hm hm2 h
end
end Pl

set_option maxHeartbeats 4000000
/-! Loops; the bag made; one of; likeness; letters, words. -/
namespace Pl
open PySem L2
section
variable {T : Tab} {G : Nat → Option D} {C : Nat → List D → Sto → R D}
/-! ### loops by an invariant -/
theorem for_at {g tg : List Nat} {pat : Bool} {f : Slo → Sto → O} {E : Ed} (I : Nat → Slo → Sto → Prop) : ∀ (ds : List D) (k : Nat) (ρ : Slo) (S : Sto), I k ρ S →
    (∀ i d ρ S, ds[i]? = some d → I (k + i) ρ S → ∃ ρ1, bindTg tg pat d ρ = some ρ1 ∧ Wt (f ρ1 S) ⟨I (k + i + 1), E.nx, I (k + i + 1), E.rt⟩) →
    (∀ i j ρ S ρ' S', I i ρ S → I j ρ' S' → ∀ n ∈ g, S'[n]? = S[n]?) → (∀ ρ S, I (k + ds.length) ρ S → E.nx ρ S) → Wt (forL g tg pat f ds ρ S) E
  | [], k, ρ, S, h0, hs, hg, he => he ρ S h0
  | d :: r, k, ρ, S, h0, hs, hg, he => by
    obtain ⟨ρ1, h1, h2⟩ := hs 0 d ρ S rfl h0
    unfold forL
    rw [h1]
    show Wt ((f ρ1 S).turn _) E
    rw [wt_turn]
    have go : ∀ ρ' S', I (k + 1) ρ' S' → Wt (grdO g S S' (forL g tg pat f r ρ' S')) E := fun ρ' S' h' => by
      have e : grdO g S S' (forL g tg pat f r ρ' S') = forL g tg pat f r ρ' S' := by
        unfold grdO
        rw [if_pos fun n hn => hg _ _ _ _ _ _ h0 h' n hn]
      rw [e]
      refine for_at I r (k + 1) ρ' S' h' (fun i d ρ S hd hI => ?_) hg fun ρ S hI => he ρ S (by rw [List.length_cons, Nat.add_comm r.length 1, ← Nat.add_assoc]; exact hI)
      have := hs (i + 1) d ρ S (by simpa using hd) (by rw [Nat.add_comm i 1, ← Nat.add_assoc]; exact hI)
      rw [Nat.add_comm i 1, ← Nat.add_assoc] at this
      exact this
    exact h2.mono go (fun _ _ h => h) go (fun _ _ h => h)
theorem for_inv {g tg : List Nat} {pat : Bool} {f : Slo → Sto → O} {E : Ed} {ds : List D} {ρ : Slo} {S : Sto} (I : Nat → Slo → Sto → Prop) (h0 : I 0 ρ S)
    (hs : ∀ i d ρ S, ds[i]? = some d → I i ρ S → ∃ ρ1, bindTg tg pat d ρ = some ρ1 ∧ Wt (f ρ1 S) ⟨I (i + 1), E.nx, I (i + 1), E.rt⟩)
    (hg : ∀ i j ρ S ρ' S', I i ρ S → I j ρ' S' → ∀ n ∈ g, S'[n]? = S[n]?) (he : ∀ ρ S, I ds.length ρ S → E.nx ρ S) : Wt (forL g tg pat f ds ρ S) E :=
  for_at I ds 0 ρ S h0 (fun i d ρ S hd hI => by rw [Nat.zero_add] at hI ⊢; exact hs i d ρ S hd hI) hg fun ρ S hI => he ρ S (by rw [Nat.zero_add] at hI; exact hI)
theorem lc_at {g : List Nat} {f : D → Sto → R (Option D)} {P : List D → Sto → Prop} (I : Nat → List D → Sto → Prop) : ∀ (ds : List D) (k : Nat) (acc : List D) (S : Sto), I k acc S →
    (∀ i d acc S, ds[i]? = some d → I (k + i) acc S → Wr (f d S) fun o S' => I (k + i + 1) (match o with | some x => acc ++ [x] | none => acc) S') →
    (∀ i j a S a' S', I i a S → I j a' S' → ∀ n ∈ g, S'[n]? = S[n]?) → (∀ acc S, I (k + ds.length) acc S → P acc S) → Wr (lcL g f ds S) fun xs S' => P (acc ++ xs) S'
  | [], k, acc, S, h0, hs, hg, he => by
    show P (acc ++ []) S
    rw [List.append_nil]
    exact he acc S h0
  | d :: r, k, acc, S, h0, hs, hg, he => by
    have h1 := hs 0 d acc S rfl h0
    unfold lcL
    rw [wr_bind, wr_nox]
    refine h1.mono fun o S' h' => ?_
    have e : ∀ q : R (List D), grd g S S' q = q := fun q => by
      unfold grd
      rw [if_pos fun n hn => hg _ _ _ _ _ _ h0 h' n hn]
    rw [e, wr_bind]
    have ih := lc_at (P := P) I r (k + 1) _ S' h' (fun i d acc S hd hI => by
      have := hs (i + 1) d acc S (by simpa using hd) (by rw [Nat.add_comm i 1, ← Nat.add_assoc]; exact hI)
      rw [Nat.add_comm i 1, ← Nat.add_assoc] at this
      exact this) hg fun acc S hI => he acc S (by rw [List.length_cons, Nat.add_comm r.length 1, ← Nat.add_assoc]; exact hI)
    refine ih.mono fun xs S2 hp => ?_
    cases o with
    | none => exact hp
    | some x =>
      show P (acc ++ (x :: xs)) S2
      have : acc ++ (x :: xs) = (acc ++ [x]) ++ xs := by simp
      rw [this]
      exact hp
theorem lc_inv {g : List Nat} {f : D → Sto → R (Option D)} {P : List D → Sto → Prop} {ds : List D} {S : Sto} (I : Nat → List D → Sto → Prop) (h0 : I 0 [] S)
    (hs : ∀ i d acc S, ds[i]? = some d → I i acc S → Wr (f d S) fun o S' => I (i + 1) (match o with | some x => acc ++ [x] | none => acc) S')
    (hg : ∀ i j a S a' S', I i a S → I j a' S' → ∀ n ∈ g, S'[n]? = S[n]?) (he : ∀ acc S, I ds.length acc S → P acc S) : Wr (lcL g f ds S) P := by
  have := lc_at (P := P) I ds 0 [] S h0 (fun i d ρ S hd hI => by rw [Nat.zero_add] at hI ⊢; exact hs i d ρ S hd hI) hg fun ρ S hI => he ρ S (by rw [Nat.zero_add] at hI; exact hI)
  simpa using this
/-- a comprehension that changes nothing -/
theorem lc_pure {g : List Nat} {f : D → Sto → R (Option D)} {S : Sto} (h : D → D) : ∀ ds : List D, (∀ d ∈ ds, f d S = .ok (some (h d)) S) → lcL g f ds S = .ok (ds.map h) S
  | [], _ => rfl
  | d :: r, q => by
    unfold lcL
    rw [q d (List.mem_cons_self ..)]
    show grd g S S _ = _
    rw [grd_same, lc_pure h r fun d hd => q d (List.mem_cons_of_mem _ hd)]
    rfl
/-- a comprehension that changes nothing, its things as they come -/
theorem lc_same {g : List Nat} {f : D → Sto → R (Option D)} {S : Sto} {P : List D → Sto → Prop} (h : D → Option D) {ds : List D} (q : ∀ d ∈ ds, Wr (f d S) fun o S' => o = h d ∧ S' = S) (hP : P (ds.filterMap h) S) : Wr (lcL g f ds S) P := by
  have e : lcL g f ds S = .ok (ds.filterMap h) S := by
    clear hP
    induction ds with
    | nil => rfl
    | cons d r ih =>
      obtain ⟨o, S', e, rfl, rfl⟩ := (q d (List.mem_cons_self ..)).ok
      unfold lcL
      rw [e]
      show grd g S' S' _ = _
      rw [grd_same, ih fun d hd => q d (List.mem_cons_of_mem _ hd), List.filterMap_cons]
      cases h d <;> rfl
  rw [e]
  exact hP
/-! ### the bag -/
def b_bag : List Sm := [
  .asg 1 (.cst (.int 41)),
  .for_ [2] false (.sq (.fr (.cut (.var 0) none (some (.cst (.int 63)))))) [.asg 1 (.bin .mod (.bin .add (.bin .add (.bin .mul (.var 1) (.cst (.int 65539))) (.var 2)) (.cst (.int 7))) (.cst (.int 2147483629)))],
  .ret (.new (.lst [(.new (.list (.fr (.cut (.var 0) none (some (.cst (.int 63))))))), (.cst (.int 0)), (.cst (.int 0)), (.var 1), (.cst (.int 0))]))]
theorem cut_ints {ns : List Int} {lo hi : Option Int} : cutL (ns.map D.int) lo hi = (cutL ns lo hi).map D.int := by
  unfold cutL
  rw [List.length_map, List.map_take, List.map_drop]
theorem bag_run {f k : Nat} {ns : List Int} {P : D → Sto → Prop} (hT : T f = some ⟨1, 3, b_bag⟩) (h : ∀ b S, Bag S b → P (.ref b) S) : Wr (run T G (k + 1) f [.fro (ns.map D.int)] []) P := by
  rw [wr_run hT rfl]
  show Wt (exs _ _ b_bag [some (.fro (ns.map D.int)), none, none] []) _
  unfold b_bag
  rw [wt_cons]
  simp only [ev, evs, evo, evT, evto, evF, evQ, evI, ex, wr_bind, wr_ok, wt_o, wt_seq, wt_turn, wt_next, wt_brk, wt_cont, wt_ret, R.bind_ok, R.o_ok, List.getElem?_cons_zero, List.getElem?_cons_succ, List.set_cons_zero, List.set_cons_succ]
  rw [wt_cons]
  simp only [ev, evs, evo, evT, evto, evF, evQ, evI, ex, wr_bind, wr_ok, wt_o, wt_seq, wt_turn, wt_next, wt_brk, wt_cont, wt_ret, R.bind_ok, R.o_ok, List.getElem?_cons_zero, List.getElem?_cons_succ, List.set_cons_zero, List.set_cons_succ, seqV, Bool.false_eq_true, if_false]
  refine for_inv (fun _ ρ S => S = [] ∧ ∃ (i : Int) (x : Option D), ρ = [some (.fro (ns.map D.int)), some (.int i), x]) ⟨rfl, 41, none, rfl⟩ (fun i d ρ S hd hI => ?_) (fun _ _ _ _ _ _ _ _ n hn => nomatch hn) (fun ρ S hI => ?_)
  · obtain ⟨rfl, j, x, rfl⟩ := hI
    rw [cut_ints, List.getElem?_map] at hd
    cases e : (cutL ns none (some 63))[i]? with
    | none => rw [e] at hd; cases hd
    | some n =>
      rw [e] at hd
      cases hd
      refine ⟨_, rfl, ?_⟩
      show Wt (exs _ _ _ [some (.fro (ns.map D.int)), some (.int j), some (.int n)] []) _
      rw [wt_cons]
      simp (disch := omega) only [ev, evs, evo, evT, evto, evF, evQ, evI, ex, wr_bind, wr_ok, wt_o, wt_seq, wt_turn, wt_next, wt_brk, wt_cont, wt_ret, R.bind_ok, R.o_ok, List.getElem?_cons_zero, List.getElem?_cons_succ, List.set_cons_zero, List.set_cons_succ, v_mul, v_add, v_mod]
      rw [wt_nil]
      exact ⟨rfl, _, _, rfl⟩
  · obtain ⟨rfl, j, x, rfl⟩ := hI
    dsimp only
    rw [wt_cons]
    simp only [ev, evs, evo, evT, evto, evF, evQ, evI, ex, wr_bind, wr_ok, wt_o, wt_seq, wt_turn, wt_next, wt_brk, wt_cont, wt_ret, R.bind_ok, R.o_ok, List.getElem?_cons_zero, List.getElem?_cons_succ, List.set_cons_zero, List.set_cons_succ, seqV, Bool.false_eq_true, if_false]
    rw [if_pos (by show 5 ≤ 100000; decide)]
    simp only [ev, evs, evo, evT, evto, evF, evQ, evI, ex, wr_bind, wr_ok, wt_o, wt_seq, wt_turn, wt_next, wt_brk, wt_cont, wt_ret, R.bind_ok, R.o_ok, List.getElem?_cons_zero, List.getElem?_cons_succ, List.set_cons_zero, List.set_cons_succ]
    refine h _ _ ⟨0, cutL ns none (some 63), 0, 0, j, 0, rfl, rfl, ?_, by decide⟩
    rw [cut_ints]
    rfl
/-! ### one of -/
def b_of (p : Nat) : List Sm := [.ret (.idx (.var 1) (.call p [(.var 0), (.len (.var 1))]))]
theorem of_lst {f p k b n : Nat} {ds : List D} {S : Sto} {P : D → Sto → Prop} (hT : T f = some ⟨2, 2, b_of p⟩) (hP : T p = some ⟨2, 6, b_pull⟩) (hb : Bag S b) (hn : n ≠ b) (hd : S[n]? = some (.lst ds)) (h1 : 0 < ds.length) (h2 : ds.length ≤ lim)
    (h : ∀ (r : Nat) (d : D) S', ds[r]? = some d → Bag S' b → Frm b S S' → P d S') : Wr (run T G (k + 2) f [.ref b, .ref n] S) P := by
  rw [wr_run hT rfl]
  show Wt (exs _ _ (b_of p) [some (.ref b), some (.ref n)] S) _
  unfold b_of
  rw [wt_cons]
  have hl : ds.length ≤ 100000 := h2
  simp only [ev, evs, evo, evT, evto, evF, evQ, evI, ex, wr_bind, wr_ok, wt_o, wt_seq, wt_turn, wt_next, wt_brk, wt_cont, wt_ret, R.bind_ok, R.o_ok, List.getElem?_cons_zero, List.getElem?_cons_succ, List.set_cons_zero, List.set_cons_succ, len_lst hd]
  refine pull_run hP hb (by omega) (by omega) fun r S' r0 r1 hb' fr => ?_
  obtain ⟨d, q1, q2⟩ := atI_in (xs := ds) r0 r1
  rw [idxV_lst (fr.at_ hd hn) q1]
  exact h _ _ _ q2 hb' fr
theorem of_str {f p k b : Nat} {xs : List Nat} {S : Sto} {P : D → Sto → Prop} (hT : T f = some ⟨2, 2, b_of p⟩) (hP : T p = some ⟨2, 6, b_pull⟩) (hb : Bag S b) (h1 : 0 < xs.length) (h2 : xs.length ≤ lim)
    (h : ∀ (r : Nat) c S', xs[r]? = some c → Bag S' b → Frm b S S' → P (.str [c]) S') : Wr (run T G (k + 2) f [.ref b, .str xs] S) P := by
  rw [wr_run hT rfl]
  show Wt (exs _ _ (b_of p) [some (.ref b), some (.str xs)] S) _
  unfold b_of
  rw [wt_cons]
  have hl : xs.length ≤ 100000 := h2
  simp only [ev, evs, evo, evT, evto, evF, evQ, evI, ex, wr_bind, wr_ok, wt_o, wt_seq, wt_turn, wt_next, wt_brk, wt_cont, wt_ret, R.bind_ok, R.o_ok, List.getElem?_cons_zero, List.getElem?_cons_succ, List.set_cons_zero, List.set_cons_succ, len_str h2]
  refine pull_run hP hb (by omega) (by omega) fun r S' r0 r1 hb' fr => ?_
  obtain ⟨d, q1, q2⟩ := atI_in (xs := xs) r0 r1
  simp only [idxV, if_pos h2, q1]
  exact h _ _ _ q2 hb' fr
/-! ### letters -/
def alph : List Nat := [97, 98, 99, 100, 101, 102, 103, 104, 105, 106, 107, 108, 109, 110, 111, 112, 113, 114, 115, 116, 117, 118, 119, 120, 121, 122]
def b_letters (p o : Nat) : List Sm := [
  .asg 1 (.cst (.str alph)),
  .asg 2 (.call p [(.var 0), (.cst (.int 26))]),
  .asg 3 (.call o [(.var 0), (.new (.lst [(.cst (.int 1)), (.cst (.int 3)), (.cst (.int 5)), (.cst (.int 7)), (.cst (.int 9)), (.cst (.int 11))]))]),
  .ret (.new (.lc [("_law_k", 4)] [4] false (.rng (.cst (.int 3))) none (.idx (.var 1) (.bin .mod (.bin .add (.var 2) (.bin .mul (.var 3) (.var 4))) (.cst (.int 26))))))]
def Lett (xs : List Nat) : Prop := ∀ x ∈ xs, x ∈ alph
theorem alph_at {i : Int} (h0 : 0 ≤ i) (h1 : i < 26) (S : Sto) : ∃ c, c ∈ alph ∧ idxV (.str alph) (.int i) S = .ok (.str [c]) S := by
  obtain ⟨c, q1, q2⟩ := atI_in (xs := alph) h0 (by exact h1)
  refine ⟨c, List.mem_of_getElem? q2, ?_⟩
  unfold idxV
  simp only [q1]
  rw [if_pos (by decide)]
theorem letters_run {f p o k b : Nat} {S : Sto} {P : D → Sto → Prop} (hT : T f = some ⟨1, 5, b_letters p o⟩) (hO : T o = some ⟨2, 2, b_of p⟩) (hP : T p = some ⟨2, 6, b_pull⟩) (hb : Bag S b)
    (h : ∀ n xs S', xs.length = 3 → Lett xs → S'[n]? = some (.lst (xs.map fun c => D.str [c])) → S.length ≤ n → Bag S' b → Frm b S S' → P (.ref n) S') : Wr (run T G (k + 3) f [.ref b] S) P := by
  rw [wr_run hT rfl]
  show Wt (exs _ _ (b_letters p o) [some (.ref b), none, none, none, none] S) _
  unfold b_letters
  rw [wt_cons]
  simp only [ev, evs, evo, evT, evto, evF, evQ, evI, ex, wr_bind, wr_ok, wt_o, wt_seq, wt_turn, wt_next, wt_brk, wt_cont, wt_ret, R.bind_ok, R.o_ok, List.getElem?_cons_zero, List.getElem?_cons_succ, List.set_cons_zero, List.set_cons_succ]
  rw [wt_cons]
  simp only [ev, evs, evo, evT, evto, evF, evQ, evI, ex, wr_bind, wr_ok, wt_o, wt_seq, wt_turn, wt_next, wt_brk, wt_cont, wt_ret, R.bind_ok, R.o_ok, List.getElem?_cons_zero, List.getElem?_cons_succ, List.set_cons_zero, List.set_cons_succ]
  refine pull_run hP hb (by decide) (by decide) fun r S1 r0 r1 hb1 f1 => ?_
  rw [wt_cons]
  simp only [ev, evs, evo, evT, evto, evF, evQ, evI, ex, wr_bind, wr_ok, wt_o, wt_seq, wt_turn, wt_next, wt_brk, wt_cont, wt_ret, R.bind_ok, R.o_ok, List.getElem?_cons_zero, List.getElem?_cons_succ, List.set_cons_zero, List.set_cons_succ, List.length_cons, List.length_nil]
  rw [if_pos (by decide)]
  simp only [ev, evs, evo, evT, evto, evF, evQ, evI, ex, wr_bind, wr_ok, wt_o, wt_seq, wt_turn, wt_next, wt_brk, wt_cont, wt_ret, R.bind_ok, R.o_ok, List.getElem?_cons_zero, List.getElem?_cons_succ, List.set_cons_zero, List.set_cons_succ]
  refine of_lst (ds := [.int 1, .int 3, .int 5, .int 7, .int 9, .int 11]) hO hP hb1.new (by have := hb1.lt; omega) (by simp) (by decide) (by decide) fun q d S2 hq hb2 f2 => ?_
  have hd : ∃ j : Int, d = .int j ∧ 0 ≤ j ∧ j < 12 := by
    have := List.mem_of_getElem? hq
    simp only [List.mem_cons, List.not_mem_nil, or_false] at this
    rcases this with rfl | rfl | rfl | rfl | rfl | rfl <;> exact ⟨_, rfl, by decide, by decide⟩
  obtain ⟨j, rfl, j0, j1⟩ := hd
  have fr : Frm b S S2 := (f1.trans .new).trans f2
  rw [wt_cons]
  simp only [ev, evs, evo, evT, evto, evF, evQ, evI, ex, wr_bind, wr_ok, wt_o, wt_seq, wt_turn, wt_next, wt_brk, wt_cont, wt_ret, R.bind_ok, R.o_ok, List.getElem?_cons_zero, List.getElem?_cons_succ, List.set_cons_zero, List.set_cons_succ]
  rw [if_pos (by decide)]
  simp only [ev, evs, evo, evT, evto, evF, evQ, evI, ex, wr_bind, wr_ok, wt_o, wt_seq, wt_turn, wt_next, wt_brk, wt_cont, wt_ret, R.bind_ok, R.o_ok, List.getElem?_cons_zero, List.getElem?_cons_succ, List.set_cons_zero, List.set_cons_succ]
  rw [if_pos (by decide)]
  refine lc_inv (fun i acc S' => S' = S2 ∧ ∃ xs : List Nat, xs.length = i ∧ Lett xs ∧ acc = xs.map fun c => D.str [c]) ⟨rfl, [], rfl, fun x hx => (nomatch hx), rfl⟩ (fun i d acc S' hd hI => ?_) (fun _ _ _ _ _ _ _ _ n hn => nomatch hn) (fun acc S' hI => ?_)
  · obtain ⟨rfl, xs, hl, hx, rfl⟩ := hI
    have hd' : ∃ m : Nat, d = .int m ∧ m < 3 := by
      have := List.mem_of_getElem? hd
      simp only [List.mem_map, List.mem_range] at this
      obtain ⟨m, hm, rfl⟩ := this
      exact ⟨m, rfl, hm⟩
    obtain ⟨m, rfl, hm⟩ := hd'
    simp only [List.map_cons, List.map_nil, wipeD, bindTg, evto, ev, evs, evo, evT, evto, evF, evQ, evI, ex, wr_bind, wr_ok, wt_o, wt_seq, wt_turn, wt_next, wt_brk, wt_cont, wt_ret, R.bind_ok, R.o_ok, List.getElem?_cons_zero, List.getElem?_cons_succ, List.set_cons_zero, List.set_cons_succ]
    simp (disch := omega) only [ev, evs, evo, evT, evto, evF, evQ, evI, ex, wr_bind, wr_ok, wt_o, wt_seq, wt_turn, wt_next, wt_brk, wt_cont, wt_ret, R.bind_ok, R.o_ok, List.getElem?_cons_zero, List.getElem?_cons_succ, List.set_cons_zero, List.set_cons_succ, v_mul, v_add, v_mod]
    obtain ⟨c, hc, he⟩ := alph_at (i := (r + j * (m : Int)) % 26) (by omega) (by omega) S'
    simp only [ev, evs, evo, evT, evto, evF, evQ, evI, ex, wr_bind, wr_ok, wt_o, wt_seq, wt_turn, wt_next, wt_brk, wt_cont, wt_ret, R.bind_ok, R.o_ok, List.getElem?_cons_zero, List.getElem?_cons_succ, List.set_cons_zero, List.set_cons_succ, he]
    refine ⟨trivial, xs ++ [c], by simp [hl], fun x hx2 => ?_, by simp⟩
    rcases List.mem_append.mp hx2 with hx2 | hx2
    · exact hx x hx2
    · rw [List.mem_singleton.mp hx2]; exact hc
  · obtain ⟨rfl, xs, hl, hx, rfl⟩ := hI
    exact h _ xs _ (by simpa using hl) hx (by simp) (fr.1) hb2.new (fr.trans .new)
/-! ### words -/
def b_word (p o : Nat) : List Sm := [.ret (.join (.cst (.str [])) (.fr (.lc [("_law_k", 3)] [3] false (.rng (.call p [(.var 0), (.bin .add (.var 2) (.cst (.int 1)))])) none (.call o [(.var 0), (.var 1)]))))]
theorem strs_of : ∀ xs : List Nat, strsD (xs.map fun c => D.str [c]) = some (xs.map fun c => [c])
  | [] => rfl
  | x :: xs => by simp only [List.map_cons, strsD, strs_of xs, Option.map_some]
theorem join_one : ∀ xs : List Nat, joinL [] (xs.map fun c => [c]) = xs
  | [] => rfl
  | [x] => rfl
  | x :: y :: r => by
    have := join_one (y :: r)
    show [x] ++ [] ++ joinL [] ((y :: r).map fun c => [c]) = _
    rw [this]
    rfl
theorem sum_one : ∀ xs : List Nat, ((xs.map fun c => [c]).map List.length).sum = xs.length
  | [] => rfl
  | x :: xs => by
    rw [List.map_cons, List.map_cons, List.sum_cons, sum_one xs]
    show 1 + xs.length = xs.length + 1
    omega
theorem word_run {f p o k b n : Nat} {ls : List Nat} {top : Int} {S : Sto} {P : D → Sto → Prop} (hT : T f = some ⟨3, 4, b_word p o⟩) (hO : T o = some ⟨2, 2, b_of p⟩) (hP : T p = some ⟨2, 6, b_pull⟩) (hb : Bag S b) (hn : n ≠ b) (hd : S[n]? = some (.lst (ls.map fun c => D.str [c]))) (h1 : 0 < ls.length) (h2 : ls.length ≤ lim) (t0 : 0 ≤ top) (t1 : top < 1000)
    (h : ∀ (w : List Nat) S', w.length ≤ top.toNat → (∀ c ∈ w, c ∈ ls) → Bag S' b → Frm b S S' → P (.str w) S') : Wr (run T G (k + 3) f [.ref b, .ref n, .int top] S) P := by
  rw [wr_run hT rfl]
  show Wt (exs _ _ (b_word p o) [some (.ref b), some (.ref n), some (.int top), none] S) _
  unfold b_word
  rw [wt_cons]
  simp only [ev, evs, evo, evT, evto, evF, evQ, evI, ex, wr_bind, wr_ok, wt_o, wt_seq, wt_turn, wt_next, wt_brk, wt_cont, wt_ret, R.bind_ok, R.o_ok, List.getElem?_cons_zero, List.getElem?_cons_succ, List.set_cons_zero, List.set_cons_succ, v_add]
  refine pull_run hP hb (by omega) (by omega) fun r S1 r0 r1 hb1 f1 => ?_
  simp only [ev, evs, evo, evT, evto, evF, evQ, evI, ex, wr_bind, wr_ok, wt_o, wt_seq, wt_turn, wt_next, wt_brk, wt_cont, wt_ret, R.bind_ok, R.o_ok, List.getElem?_cons_zero, List.getElem?_cons_succ, List.set_cons_zero, List.set_cons_succ]
  rw [if_pos (by omega)]
  simp only [ev, evs, evo, evT, evto, evF, evQ, evI, ex, wr_bind, wr_ok, wt_o, wt_seq, wt_turn, wt_next, wt_brk, wt_cont, wt_ret, R.bind_ok, R.o_ok, List.getElem?_cons_zero, List.getElem?_cons_succ, List.set_cons_zero, List.set_cons_succ]
  have hlen : ((List.range r.toNat).map fun k => D.int ((k : Nat) : Int)).length = r.toNat := by simp
  rw [if_pos (by rw [hlen]; show r.toNat ≤ 100000; omega)]
  refine lc_inv (fun i acc S' => Bag S' b ∧ Frm b S S' ∧ ∃ xs : List Nat, xs.length = i ∧ (∀ c ∈ xs, c ∈ ls) ∧ acc = xs.map fun c => D.str [c]) ⟨hb1, f1, [], rfl, fun x hx => (nomatch hx), rfl⟩ (fun i d acc S' hd' hI => ?_) (fun _ _ _ _ _ _ _ _ n hn => nomatch hn) (fun acc S' hI => ?_)
  · obtain ⟨hb', f', xs, hl, hx, rfl⟩ := hI
    simp only [List.map_cons, List.map_nil, wipeD, bindTg, evto, ev, evs, evo, evT, evto, evF, evQ, evI, ex, wr_bind, wr_ok, wt_o, wt_seq, wt_turn, wt_next, wt_brk, wt_cont, wt_ret, R.bind_ok, R.o_ok, List.getElem?_cons_zero, List.getElem?_cons_succ, List.set_cons_zero, List.set_cons_succ]
    refine of_lst hO hP hb' hn (f'.at_ hd hn) (by simpa using h1) (by simpa using h2) fun q d2 S2 hq hb2 f2 => ?_
    have hq2 := List.mem_of_getElem? hq
    simp only [List.mem_map] at hq2
    obtain ⟨c, hc, rfl⟩ := hq2
    refine ⟨hb2, f'.trans f2, xs ++ [c], by simp [hl], fun x hx2 => ?_, by simp⟩
    rcases List.mem_append.mp hx2 with hx2 | hx2
    · exact hx x hx2
    · rw [List.mem_singleton.mp hx2]; exact hc
  · obtain ⟨hb', f', xs, hl, hx, rfl⟩ := hI
    rw [hlen] at hl
    simp only [ev, evs, evo, evT, evto, evF, evQ, evI, ex, wr_bind, wr_ok, wt_o, wt_seq, wt_turn, wt_next, wt_brk, wt_cont, wt_ret, R.bind_ok, R.o_ok, List.getElem?_cons_zero, List.getElem?_cons_succ, List.set_cons_zero, List.set_cons_succ, strs_of]
    rw [sum_one, List.length_map, join_one]
    rw [if_pos (by simp only [List.length_nil, Nat.mul_zero, Nat.add_zero]; show xs.length ≤ 100000; omega)]
    simp only [ev, evs, evo, evT, evto, evF, evQ, evI, ex, wr_bind, wr_ok, wt_o, wt_seq, wt_turn, wt_next, wt_brk, wt_cont, wt_ret, R.bind_ok, R.o_ok, List.getElem?_cons_zero, List.getElem?_cons_succ, List.set_cons_zero, List.set_cons_succ]
    exact h xs S' (by omega) hx hb' f'
end
end Pl

set_option maxHeartbeats 4000000
/-! Likeness. -/
namespace Pl
open PySem L2
def b_same (s : Nat) : List Sm := [
  .if_ (.ex (.isi2 (.var 1) .list .tuple)) [.if_ (.or_ (.cmp .ne (.isi (.var 0) .list) (.isi (.var 1) .list)) (.cmp .ne (.isi (.var 0) .tuple) (.isi (.var 1) .tuple))) [.ret (.cst (.bl false))] [], .ret (.and_ (.cmp .eq (.len (.var 0)) (.len (.var 1))) (.all_ (.fr (.lc [("_law_a", 2), ("_law_b", 3)] [2, 3] true (.zip (.ex (.var 0)) (.ex (.var 1))) none (.call s [(.var 2), (.var 3)])))))] [],
  .if_ (.or_ (.cmp .isN (.var 1) (.cst .non)) (.cmp .isN (.var 0) (.cst .non))) [.ret (.and_ (.cmp .isN (.var 0) (.cst .non)) (.cmp .isN (.var 1) (.cst .non)))] [],
  .if_ (.or_ (.cmp .ne (.isi (.var 0) .bool) (.isi (.var 1) .bool)) (.cmp .ne (.isi (.var 0) .int) (.isi (.var 1) .int))) [.ret (.cst (.bl false))] [],
  .ret (.and_ (.cmp .eq (.isi (.var 0) .str) (.isi (.var 1) .str)) (.cmp .eq (.var 0) (.var 1)))]
def like (S : Sto) : Nat → D → D → Prop
  | 0, _, _ => False
  | n + 1, a, b => match a, b with
    | .tup as, .tup bs => as.length = bs.length ∧ as.length ≤ lim ∧ ∀ (i : Nat) (x y : D), as[i]? = some x → bs[i]? = some y → like S n x y
    | .ref i, .ref j => ∃ as bs, S[i]? = some (.lst as) ∧ S[j]? = some (.lst bs) ∧ as.length = bs.length ∧ as.length ≤ lim ∧ ∀ (i : Nat) (x y : D), as[i]? = some x → bs[i]? = some y → like S n x y
    | .non, .non => True
    | .bl a, .bl b => a = b
    | .int a, .int b => a = b
    | .str a, .str b => a = b
    | _, _ => False
theorem bools_true : ∀ n : Nat, boolsD (List.replicate n (.bl true)) = some (List.replicate n true)
  | 0 => rfl
  | n + 1 => by
    rw [List.replicate_succ, List.replicate_succ]
    simp only [boolsD, bools_true n, Option.map_some]
section
variable {T : Tab} {G : Nat → Option D} {f : Nat}
theorem same_seq {k : Nat} {S : Sto} {a b : D} {as bs : List D} {t : Ty} {E : Ed} {g g' : List Nat} {tp : Bool} (hty : (tyOf a S = some [.list] ∧ tyOf b S = some [.list]) ∨ (tyOf a S = some [.tuple] ∧ tyOf b S = some [.tuple])) (la : lenV a S = .ok (.int as.length) S) (lb : lenV b S = .ok (.int bs.length) S) (sa : seqV a S = .ok ⟨as, g, tp⟩ S) (sb : seqV b S = .ok ⟨bs, g', tp⟩ S)
    (hl : as.length = bs.length) (hm : as.length ≤ lim) (h : ∀ (i : Nat) (x y : D), as[i]? = some x → bs[i]? = some y → run T G k f [x, y] S = .ok (.bl true) S) (hE : E.rt (.bl true) S) : Wt (exs (run T G k) G (b_same f) [some a, some b, none, none] S) E := by
  have hi : ∀ t, isV a [t] S = isV b [t] S := fun t => by
    rcases hty with ⟨h1, h2⟩ | ⟨h1, h2⟩ <;> (unfold isV; rw [h1, h2])
  have hb : ∀ t, ∃ v, isV b [t] S = .ok (.bl v) S := fun t => by
    rcases hty with ⟨h1, h2⟩ | ⟨h1, h2⟩ <;> (unfold isV; rw [h2]; exact ⟨_, rfl⟩)
  have h2 : isV b [.list, .tuple] S = .ok (.bl true) S := by
    rcases hty with ⟨h1, h2⟩ | ⟨h1, h2⟩ <;> (unfold isV; rw [h2] <;> rfl)
  obtain ⟨v1, e1⟩ := hb .list
  obtain ⟨v2, e2⟩ := hb .tuple
  unfold b_same
  rw [wt_cons]
  simp only [ev, evs, evo, evT, evto, evF, evQ, evI, ex, wr_bind, wr_ok, wt_o, wt_seq, wt_turn, wt_next, wt_brk, wt_cont, wt_ret, R.bind_ok, R.o_ok, List.getElem?_cons_zero, List.getElem?_cons_succ, List.set_cons_zero, List.set_cons_succ, h2, truV]
  rw [wt_cons]
  simp only [ev, evs, evo, evT, evto, evF, evQ, evI, ex, wr_bind, wr_ok, wt_o, wt_seq, wt_turn, wt_next, wt_brk, wt_cont, wt_ret, R.bind_ok, R.o_ok, List.getElem?_cons_zero, List.getElem?_cons_succ, List.set_cons_zero, List.set_cons_succ, hi, e1, e2, c_neb, decide_true, Bool.not_true]
  rw [wt_nil]
  simp only
  rw [wt_cons]
  simp only [ev, evs, evo, evT, evto, evF, evQ, evI, ex, wr_bind, wr_ok, wt_o, wt_seq, wt_turn, wt_next, wt_brk, wt_cont, wt_ret, R.bind_ok, R.o_ok, List.getElem?_cons_zero, List.getElem?_cons_succ, List.set_cons_zero, List.set_cons_succ, la, lb, c_eqi, hl, decide_true, sa, sb]
  rw [grd_same]
  simp only [if_true, ev, evs, evo, evT, evto, evF, evQ, evI, ex, wr_bind, wr_ok, wt_o, wt_seq, wt_turn, wt_next, wt_brk, wt_cont, wt_ret, R.bind_ok, R.o_ok, List.getElem?_cons_zero, List.getElem?_cons_succ, List.set_cons_zero, List.set_cons_succ, Bool.false_eq_true, if_false]
  have hz : (((as.zip bs).map fun xy => D.tup [xy.1, xy.2]).length) = bs.length := by simp [hl]
  rw [if_pos (by rw [hz, ← hl]; exact hm)]
  refine lc_inv (fun i acc S' => S' = S ∧ acc = List.replicate i (.bl true)) ⟨rfl, rfl⟩ (fun i d acc S' hd hI => ?_) (fun _ _ _ _ _ _ hI hJ n hn => by rw [hI.1, hJ.1]) (fun acc S' hI => ?_)
  · obtain ⟨rfl, rfl⟩ := hI
    rw [List.getElem?_map] at hd
    cases e : (as.zip bs)[i]? with
    | none => rw [e] at hd; cases hd
    | some xy =>
      rw [e] at hd
      cases hd
      obtain ⟨x, y⟩ := xy
      obtain ⟨q1, q2⟩ := List.getElem?_zip_eq_some.mp e
      simp only [List.map_cons, List.map_nil, wipeD, bindTg, setAll, evto, ev, evs, evo, evT, evto, evF, evQ, evI, ex, wr_bind, wr_ok, wt_o, wt_seq, wt_turn, wt_next, wt_brk, wt_cont, wt_ret, R.bind_ok, R.o_ok, List.getElem?_cons_zero, List.getElem?_cons_succ, List.set_cons_zero, List.set_cons_succ, h i x y q1 q2]
      exact ⟨trivial, by rw [List.replicate_succ']⟩
  · obtain ⟨rfl, rfl⟩ := hI
    rw [hz, bools_true]
    simp only [ev, evs, evo, evT, evto, evF, evQ, evI, ex, wr_bind, wr_ok, wt_o, wt_seq, wt_turn, wt_next, wt_brk, wt_cont, wt_ret, R.bind_ok, R.o_ok, List.getElem?_cons_zero, List.getElem?_cons_succ, List.set_cons_zero, List.set_cons_succ]
    have : (List.replicate bs.length true).all id = true := by simp
    rw [this]
    exact hE
theorem same_go (hT : T f = some ⟨2, 4, b_same f⟩) : ∀ (n : Nat) (a b : D) (S : Sto), like S n a b → ∀ j, run T G (n + j) f [a, b] S = .ok (.bl true) S
  | 0, a, b, S, h, j => h.elim
  | n + 1, a, b, S, h, j => by
    have go : Wr (run T G (n + 1 + j) f [a, b] S) fun d S' => d = .bl true ∧ S' = S := by
      rw [Nat.add_right_comm, wr_run hT rfl]
      show Wt (exs _ _ (b_same f) [some a, some b, none, none] S) _
      have flat : ∀ {z w : Bool}, (∀ t, isV a [t] S = isV b [t] S) → (∀ t, ∃ v, isV b [t] S = .ok (.bl v) S) → isV b [.list, .tuple] S = .ok (.bl false) S → isNn b = false → isNn a = false → cmpV .eq a b S = .ok (.bl true) S →
          Wt (exs (run T G (n + j)) G (b_same f) [some a, some b, none, none] S) ⟨fun _ S' => (.non : D) = .bl true ∧ S' = S, no2, no2, fun d S' => d = .bl true ∧ S' = S⟩ := by
        intro z w hi hb h2 hn hn2 hc
        obtain ⟨v1, e1⟩ := hb .bool
        obtain ⟨v2, e2⟩ := hb .int
        obtain ⟨v3, e3⟩ := hb .str
        unfold b_same
        rw [wt_cons]
        simp only [ev, evs, evo, evT, evto, evF, evQ, evI, ex, wr_bind, wr_ok, wt_o, wt_seq, wt_turn, wt_next, wt_brk, wt_cont, wt_ret, R.bind_ok, R.o_ok, List.getElem?_cons_zero, List.getElem?_cons_succ, List.set_cons_zero, List.set_cons_succ, h2, truV]
        rw [wt_nil]
        simp only
        rw [wt_cons]
        simp only [ev, evs, evo, evT, evto, evF, evQ, evI, ex, wr_bind, wr_ok, wt_o, wt_seq, wt_turn, wt_next, wt_brk, wt_cont, wt_ret, R.bind_ok, R.o_ok, List.getElem?_cons_zero, List.getElem?_cons_succ, List.set_cons_zero, List.set_cons_succ, c_isN, hn, hn2]
        rw [wt_nil]
        simp only
        rw [wt_cons]
        simp only [ev, evs, evo, evT, evto, evF, evQ, evI, ex, wr_bind, wr_ok, wt_o, wt_seq, wt_turn, wt_next, wt_brk, wt_cont, wt_ret, R.bind_ok, R.o_ok, List.getElem?_cons_zero, List.getElem?_cons_succ, List.set_cons_zero, List.set_cons_succ, hi, e1, e2, c_neb, decide_true, Bool.not_true]
        rw [wt_nil]
        simp only
        rw [wt_cons]
        simp only [ev, evs, evo, evT, evto, evF, evQ, evI, ex, wr_bind, wr_ok, wt_o, wt_seq, wt_turn, wt_next, wt_brk, wt_cont, wt_ret, R.bind_ok, R.o_ok, List.getElem?_cons_zero, List.getElem?_cons_succ, List.set_cons_zero, List.set_cons_succ, hi, e3, c_eqb, decide_true, hc]
        exact ⟨trivial, trivial⟩
      cases a <;> cases b <;> first
        | exact False.elim h
        | skip
      case non.non =>
        unfold b_same
        rw [wt_cons]
        have h2 : isV .non [.list, .tuple] S = .ok (.bl false) S := rfl
        simp only [ev, evs, evo, evT, evto, evF, evQ, evI, ex, wr_bind, wr_ok, wt_o, wt_seq, wt_turn, wt_next, wt_brk, wt_cont, wt_ret, R.bind_ok, R.o_ok, List.getElem?_cons_zero, List.getElem?_cons_succ, List.set_cons_zero, List.set_cons_succ, h2, truV]
        rw [wt_nil]
        simp only
        rw [wt_cons]
        simp only [ev, evs, evo, evT, evto, evF, evQ, evI, ex, wr_bind, wr_ok, wt_o, wt_seq, wt_turn, wt_next, wt_brk, wt_cont, wt_ret, R.bind_ok, R.o_ok, List.getElem?_cons_zero, List.getElem?_cons_succ, List.set_cons_zero, List.set_cons_succ, c_isN, isNn]
        rw [wt_cons]
        simp only [ev, evs, evo, evT, evto, evF, evQ, evI, ex, wr_bind, wr_ok, wt_o, wt_seq, wt_turn, wt_next, wt_brk, wt_cont, wt_ret, R.bind_ok, R.o_ok, List.getElem?_cons_zero, List.getElem?_cons_succ, List.set_cons_zero, List.set_cons_succ, c_isN, isNn]
        exact ⟨trivial, trivial⟩
      case bl.bl x y =>
        obtain rfl : x = y := h
        exact flat (z := true) (w := true) (fun _ => rfl) (fun _ => ⟨_, rfl⟩) rfl rfl rfl (by rw [c_eqb, decide_eq_true rfl])
      case int.int x y =>
        obtain rfl : x = y := h
        exact flat (z := true) (w := true) (fun _ => rfl) (fun _ => ⟨_, rfl⟩) rfl rfl rfl (by rw [c_eqi, decide_eq_true rfl])
      case str.str x y =>
        obtain rfl : x = y := h
        exact flat (z := true) (w := true) (fun _ => rfl) (fun _ => ⟨_, rfl⟩) rfl rfl rfl (by rw [c_eqs, decide_eq_true rfl])
      case tup.tup as bs =>
        obtain ⟨h1, h2, h3⟩ := h
        exact same_seq (t := .list) (.inr ⟨rfl, rfl⟩) rfl rfl rfl rfl h1 h2 (fun i x y q1 q2 => same_go hT n x y S (h3 i x y q1 q2) j) ⟨rfl, rfl⟩
      case ref.ref p q =>
        obtain ⟨as, bs, e1, e2, h1, h2, h3⟩ := h
        refine same_seq (t := .list) (as := as) (bs := bs) (g := [p]) (g' := [q]) (tp := false) (.inl ⟨?_, ?_⟩) (len_lst e1) (len_lst e2) ?_ ?_ h1 h2 (fun i x y q1 q2 => same_go hT n x y S (h3 i x y q1 q2) j) ⟨rfl, rfl⟩
        · simp only [tyOf, e1]
        · simp only [tyOf, e2]
        · simp only [seqV, e1]
        · simp only [seqV, e2]
    obtain ⟨d, S', e, rfl, rfl⟩ := go.ok
    exact e
end
theorem like_flat {S : Sto} {k : Nat} {d : D} (h : flatD d = true) : like S (k + 1) d d := by
  cases d <;> first
    | (cases h; done)
    | trivial
    | rfl
theorem like_scal {S : Sto} {n m : Nat} {ds : List D} (hn : S[n]? = some (.lst ds)) (hm : S[m]? = some (.lst ds)) (hl : ds.length ≤ lim) (h : ∀ d ∈ ds, flatD d = true) : like S 2 (.ref n) (.ref m) :=
  ⟨ds, ds, hn, hm, rfl, hl, fun i x y q1 q2 => by
    have : x = y := by rw [q1] at q2; exact Option.some.inj q2
    subst this
    exact like_flat (h x (List.mem_of_getElem? q1))⟩
end Pl

set_option maxHeartbeats 4000000
/-! Texts. -/
namespace Pl
open PySem L2
/-- a text cut at its first c -/
theorem part_one (a : List Nat) (c : Nat) :
    (c ∉ a ∧ Txt.partition ⟨a.toArray⟩ ⟨[c].toArray⟩ = (⟨a.toArray⟩, Str.empty, Str.empty)) ∨
    ∃ i, a[i]? = some c ∧ (∀ k, k < i → a[k]? ≠ some c) ∧ (Txt.partition ⟨a.toArray⟩ ⟨[c].toArray⟩).2.1.cps.toList = [c] ∧ (Txt.partition ⟨a.toArray⟩ ⟨[c].toArray⟩).2.2.cps.toList = a.drop (i + 1) := by
  have hl : ((⟨a.toArray⟩ : Str).cps.toList) = a := by simp
  rcases StrLaws.occ_head (⟨a.toArray⟩ : Str) ⟨#[c]⟩ 1 (Nat.le_refl 1) with ⟨h0, hn⟩ | ⟨i, r, h0, hi, hn⟩
  · left
    refine ⟨fun hm => ?_, ?_⟩
    · obtain ⟨j, hj⟩ := List.getElem?_of_mem hm
      exact hn j ((StrLaws.subAt_one _ c j).mpr (by rw [hl]; exact hj))
    · unfold Txt.partition
      show (match Builtin.Str.occurrences _ ⟨#[c]⟩ 0 _ 1 with | i :: _ => _ | [] => _) = _
      rw [h0]
  · right
    have hm := (StrLaws.subAt_one _ c i).mp hi
    rw [hl] at hm
    have hp : Txt.partition ⟨a.toArray⟩ ⟨[c].toArray⟩ = (Builtin.Str.strSub ⟨a.toArray⟩ 0 i, ⟨#[c]⟩, Builtin.Str.strSub ⟨a.toArray⟩ (i + 1) (Str.length ⟨a.toArray⟩)) := by
      unfold Txt.partition
      show (match Builtin.Str.occurrences _ ⟨#[c]⟩ 0 _ 1 with | i :: _ => _ | [] => _) = _
      rw [h0]
      rfl
    refine ⟨i, hm, fun k hk e => hn k hk ((StrLaws.subAt_one _ c k).mpr (by rw [hl]; exact e)), ?_, ?_⟩
    · rw [hp]
    · rw [hp]
      show (Builtin.Str.strSub ⟨a.toArray⟩ (i + 1) (Str.length ⟨a.toArray⟩)).cps.toList = _
      rw [StrLaws.strSub_toList, hl]
      exact List.take_of_length_le (by simp [Str.length])
/-- what lies behind the first c of a -/
def BehindD (a : List Nat) (c : Nat) (d : D) : Prop := (c ∉ a ∧ d = .non) ∨ ∃ i, a[i]? = some c ∧ (∀ k, k < i → a[k]? ≠ some c) ∧ d = .str (a.drop (i + 1))
theorem BehindD.one {a : List Nat} {c : Nat} {d e : D} (h : BehindD a c d) (k : BehindD a c e) : d = e := by
  rcases h with ⟨h1, rfl⟩ | ⟨i, h1, h2, rfl⟩ <;> rcases k with ⟨k1, rfl⟩ | ⟨j, k1, k2, rfl⟩
  · rfl
  · exact absurd (List.mem_of_getElem? k1) h1
  · exact absurd (List.mem_of_getElem? h1) k1
  · have : i = j := by
      rcases Nat.lt_trichotomy i j with q | q | q
      · exact absurd h1 (k2 i q)
      · exact q
      · exact absurd k1 (h2 j q)
    rw [this]
def b_behind : List Sm := [
  .asgT [2, 3, 4] (.part (.var 0) (.var 1)),
  .ret (.ifx (.cmp .eq (.var 3) (.cst (.str []))) (.cst .non) (.var 4))]
section
variable {T : Tab} {G : Nat → Option D}
theorem behind_run {f k : Nat} {a : List Nat} {c : Nat} {S : Sto} {P : D → Sto → Prop} (hT : T f = some ⟨2, 5, b_behind⟩) (hl : a.length ≤ lim) (h : ∀ d, BehindD a c d → P d S) : Wr (run T G (k + 1) f [.str a, .str [c]] S) P := by
  rw [wr_run hT rfl]
  show Wt (exs _ _ b_behind [some (.str a), some (.str [c]), none, none, none] S) _
  unfold b_behind
  rw [wt_cons]
  simp only [ev, evs, evo, evT, evto, evF, evQ, evI, ex, wr_bind, wr_ok, wt_o, wt_seq, wt_turn, wt_next, wt_brk, wt_cont, wt_ret, R.bind_ok, R.o_ok, List.getElem?_cons_zero, List.getElem?_cons_succ, List.set_cons_zero, List.set_cons_succ]
  have hc : ¬ ([c].length = 0 ∨ lim < a.length) := by simp only [List.length_cons, List.length_nil]; omega
  rw [if_neg hc]
  simp only [ev, evs, evo, evT, evto, evF, evQ, evI, ex, wr_bind, wr_ok, wt_o, wt_seq, wt_turn, wt_next, wt_brk, wt_cont, wt_ret, R.bind_ok, R.o_ok, List.getElem?_cons_zero, List.getElem?_cons_succ, List.set_cons_zero, List.set_cons_succ, bindTg, setAll]
  rw [wt_cons]
  simp only [ev, evs, evo, evT, evto, evF, evQ, evI, ex, wr_bind, wr_ok, wt_o, wt_seq, wt_turn, wt_next, wt_brk, wt_cont, wt_ret, R.bind_ok, R.o_ok, List.getElem?_cons_zero, List.getElem?_cons_succ, List.set_cons_zero, List.set_cons_succ, c_eqs]
  rcases part_one a c with ⟨h1, h2⟩ | ⟨i, h1, h2, h3, h4⟩
  · rw [h2]
    simp only [ev, evs, evo, evT, evto, evF, evQ, evI, ex, wr_bind, wr_ok, wt_o, wt_seq, wt_turn, wt_next, wt_brk, wt_cont, wt_ret, R.bind_ok, R.o_ok, List.getElem?_cons_zero, List.getElem?_cons_succ, List.set_cons_zero, List.set_cons_succ, Str.empty]
    exact h _ (.inl ⟨h1, rfl⟩)
  · rw [h3, h4]
    simp only [ev, evs, evo, evT, evto, evF, evQ, evI, ex, wr_bind, wr_ok, wt_o, wt_seq, wt_turn, wt_next, wt_brk, wt_cont, wt_ret, R.bind_ok, R.o_ok, List.getElem?_cons_zero, List.getElem?_cons_succ, List.set_cons_zero, List.set_cons_succ, List.cons_ne_nil, decide_false]
    exact h _ (.inr ⟨i, h1, h2, rfl⟩)
/-- cutting from the front -/
theorem cut_to {α : Type} (xs : List α) (n : Nat) : cutL xs none (some (n : Int)) = xs.take n := by
  unfold cutL
  rw [HT.sIx_nat, HT.sIx_none, List.drop_zero, Nat.sub_zero]
  by_cases h : n ≤ xs.length
  · rw [Nat.min_eq_left h]
  · rw [Nat.min_eq_right (by omega), List.take_of_length_le (Nat.le_refl _), List.take_of_length_le (by omega)]
theorem cut_from {α : Type} (xs : List α) (n : Nat) : cutL xs (some (n : Int)) none = xs.drop n := by
  unfold cutL
  rw [HT.sIx_nat, HT.sIx_none]
  by_cases h : n ≤ xs.length
  · rw [Nat.min_eq_left h, List.take_of_length_le (by simp)]
  · rw [Nat.min_eq_right (by omega), List.drop_of_length_le (Nat.le_refl _), List.drop_of_length_le (by omega), List.take_nil]
theorem idx_str {a : List Nat} {i c : Nat} {S : Sto} (hl : a.length ≤ lim) (h : a[i]? = some c) : idxV (.str a) (.int i) S = .ok (.str [c]) S := by
  unfold idxV
  simp only [if_pos hl]
  rw [atI_go (by omega) (by simpa using h)]
end
/-! ### data -/
def flOk : D → Bool
  | .non => true | .bl _ => true | .int _ => true
  | .str x => PyData.strOk ⟨x.toArray⟩
  | _ => false
theorem pd_flat (g : Nat → Option PyData) : ∀ ds : List D, (∀ d ∈ ds, flOk d = true) → ∃ ps, pdRs g ds = some ps ∧ PyData.canLayAll0 ps = true ∧ PyData.depthAll ps ≤ 1 ∧ ps.length = ds.length
  | [], _ => ⟨[], rfl, rfl, by simp [PyData.depthAll], rfl⟩
  | d :: ds, h => by
    obtain ⟨ps, h1, h2, h3, h4⟩ := pd_flat g ds fun x hx => h x (List.mem_cons_of_mem _ hx)
    have hd := h d (List.mem_cons_self ..)
    have : ∃ p, pdR g d = some p ∧ PyData.canLay0 p = true ∧ PyData.depth p ≤ 1 := by
      cases d <;> first
        | (cases hd; done)
        | skip
      · exact ⟨_, rfl, rfl, by simp [PyData.depth]⟩
      · exact ⟨_, rfl, rfl, by simp [PyData.depth]⟩
      · exact ⟨_, rfl, rfl, by simp [PyData.depth]⟩
      · exact ⟨_, rfl, hd, by simp [PyData.depth]⟩
    obtain ⟨p, p1, p2, p3⟩ := this
    refine ⟨p :: ps, by simp only [pdRs, p1, h1], by simp [PyData.canLayAll0, p2, h2], by simp only [PyData.depthAll]; omega, by simp [h4]⟩
theorem ne_nil {S : Sto} {n m : Nat} {ds : List D} (hn : S[n]? = some (.lst ds)) (hm : S[m]? = some (.lst [])) (hx : ∀ d ∈ ds, flOk d = true) : cmpV .ne (.ref n) (.ref m) S = .ok (.bl (!ds.isEmpty)) S := by
  show eqV true (.ref n) (.ref m) S = _
  unfold eqV
  obtain ⟨ps, h1, h2, h3, h4⟩ := pd_flat (pdN S 3) ds hx
  have e1 : pd S (.ref n) = some (.list ps) := by
    show pdN S 4 n = _
    unfold pdN
    rw [hn]
    show (pdRs (pdN S 3) ds).map PyData.list = _
    rw [h1]
    rfl
  have e2 : pd S (.ref m) = some (.list []) := by
    show pdN S 4 m = _
    unfold pdN
    rw [hm]
    rfl
  show (match pd S (.ref n), pd S (.ref m) with | some x, some y => _ | _, _ => _) = _
  rw [e1, e2]
  have s1 : SeqAt.shaped (.list ps) = true := by
    unfold SeqAt.shaped
    rw [show PyData.canLay0 (.list ps) = PyData.canLayAll0 ps by simp only [PyData.canLay0], h2, Bool.true_and, decide_eq_true_eq]
    simp only [PyData.depth]
    omega
  have s2 : SeqAt.shaped (.list []) = true := by decide
  show (if (SeqAt.shaped (.list ps) && SeqAt.shaped (.list [])) = true then _ else _) = _
  rw [if_pos (by rw [s1, s2] <;> rfl)]
  cases ps with
  | nil =>
    cases ds with
    | nil => rfl
    | cons d r => cases h4
  | cons p r =>
    cases ds with
    | nil => cases h4
    | cons d r => rfl
/-! ### words, letters, names -/
def lettB (w : List Nat) : Bool := w.all fun c => decide (c ∈ alph)
theorem in_alph {c : Nat} {S : Sto} : cmpV .isin (.str [c]) (.str alph) S = .ok (.bl (decide (c ∈ alph))) S := by
  show R.ok (D.bl ((!(Builtin.Str.occurrences ⟨alph.toArray⟩ ⟨[c].toArray⟩ 0 alph.length 1).isEmpty) ^^ false)) S = _
  have := StrLaws.found_one ⟨alph.toArray⟩ c
  rw [Bool.xor_false]
  exact congrArg (fun b => R.ok (D.bl b) S) this
theorem nin_alph {c : Nat} {S : Sto} : cmpV .notin (.str [c]) (.str alph) S = .ok (.bl (!decide (c ∈ alph))) S := by
  show R.ok (D.bl ((!(Builtin.Str.occurrences ⟨alph.toArray⟩ ⟨[c].toArray⟩ 0 alph.length 1).isEmpty) ^^ true)) S = _
  have := StrLaws.found_one ⟨alph.toArray⟩ c
  rw [Bool.xor_true]
  exact congrArg (fun b => R.ok (D.bl (!b)) S) this
def b_is_word (g : Nat) : List Sm := [.ret (.all_ (.fr (.lc [("sign", 1)] [1] false (.str (.var 0)) none (.cmp .isin (.var 1) (.glo g)))))]
def b_is_letter (g : Nat) : List Sm := [.ret (.and_ (.cmp .eq (.len (.var 0)) (.cst (.int 1))) (.cmp .isin (.var 0) (.glo g)))]
def b_is_name (w h : Nat) : List Sm := [.ret (.and_ (.chn .le .le (.cst (.int 1)) (.len (.var 0)) (.glo h)) (.call w [(.var 0)]))]
theorem bools_map {α : Type} (h : α → Bool) : ∀ xs : List α, boolsD (xs.map fun x => D.bl (h x)) = some (xs.map h)
  | [] => rfl
  | x :: xs => by simp only [List.map_cons, boolsD, bools_map h xs, Option.map_some]
section
variable {T : Tab} {G : Nat → Option D}
theorem run_of {k f : Nat} {ds : List D} {S S' : Sto} {d : D} (h : Wr (run T G k f ds S) fun x S2 => x = d ∧ S2 = S') : run T G k f ds S = .ok d S' := by
  obtain ⟨x, S2, e, rfl, rfl⟩ := h.ok
  exact e
theorem is_word_run {f g k : Nat} {w : List Nat} {S : Sto} (hT : T f = some ⟨1, 2, b_is_word g⟩) (hG : G g = some (.str alph)) (hl : w.length ≤ lim) : run T G (k + 1) f [.str w] S = .ok (.bl (lettB w)) S := by
  apply run_of
  rw [wr_run hT rfl]
  show Wt (exs _ _ (b_is_word g) [some (.str w), none] S) _
  unfold b_is_word
  rw [wt_cons]
  simp only [ev, evs, evo, evT, evto, evF, evQ, evI, ex, wr_bind, wr_ok, wt_o, wt_seq, wt_turn, wt_next, wt_brk, wt_cont, wt_ret, R.bind_ok, R.o_ok, List.getElem?_cons_zero, List.getElem?_cons_succ, List.set_cons_zero, List.set_cons_succ]
  rw [if_pos (by rw [List.length_map]; exact hl)]
  refine lc_same (fun d => match d with | .str [c] => some (.bl (decide (c ∈ alph))) | _ => none) (fun d hd => ?_) ?_
  · obtain ⟨c, _, rfl⟩ := List.mem_map.mp hd
    simp only [List.map_cons, List.map_nil, wipeD, bindTg, ev, evs, evo, evT, evto, evF, evQ, evI, ex, wr_bind, wr_ok, wt_o, wt_seq, wt_turn, wt_next, wt_brk, wt_cont, wt_ret, R.bind_ok, R.o_ok, List.getElem?_cons_zero, List.getElem?_cons_succ, List.set_cons_zero, List.set_cons_succ, hG, in_alph]
    exact ⟨trivial, trivial⟩
  · have : (w.map fun c => D.str [c]).filterMap (fun d => match d with | .str [c] => some (D.bl (decide (c ∈ alph))) | _ => none) = w.map fun c => D.bl (decide (c ∈ alph)) := by
      rw [List.filterMap_map]
      exact congrFun (List.filterMap_eq_map (f := fun c : Nat => D.bl (decide (c ∈ alph)))) w
    rw [this]
    simp only [ev, evs, evo, evT, evto, evF, evQ, evI, ex, wr_bind, wr_ok, wt_o, wt_seq, wt_turn, wt_next, wt_brk, wt_cont, wt_ret, R.bind_ok, R.o_ok, List.getElem?_cons_zero, List.getElem?_cons_succ, List.set_cons_zero, List.set_cons_succ, Bool.false_eq_true, if_false, bools_map]
    refine ⟨?_, trivial⟩
    unfold lettB
    rw [List.all_map]
    rfl
theorem is_letter_run {f g k : Nat} {w : List Nat} {S : Sto} (hT : T f = some ⟨1, 1, b_is_letter g⟩) (hG : G g = some (.str alph)) (hl : w.length ≤ lim) : run T G (k + 1) f [.str w] S = .ok (.bl (decide (w.length = 1) && lettB w)) S := by
  apply run_of
  rw [wr_run hT rfl]
  show Wt (exs _ _ (b_is_letter g) [some (.str w)] S) _
  unfold b_is_letter
  rw [wt_cons]
  simp only [ev, evs, evo, evT, evto, evF, evQ, evI, ex, wr_bind, wr_ok, wt_o, wt_seq, wt_turn, wt_next, wt_brk, wt_cont, wt_ret, R.bind_ok, R.o_ok, List.getElem?_cons_zero, List.getElem?_cons_succ, List.set_cons_zero, List.set_cons_succ, len_str hl, c_eqi, hG]
  by_cases h : w.length = 1
  · match w, h with
    | [c], _ =>
      simp only [List.length_cons, List.length_nil]
      have : decide (((0 + 1 : Nat) : Int) = 1) = true := by decide
      simp only [this, ev, evs, evo, evT, evto, evF, evQ, evI, ex, wr_bind, wr_ok, wt_o, wt_seq, wt_turn, wt_next, wt_brk, wt_cont, wt_ret, R.bind_ok, R.o_ok, List.getElem?_cons_zero, List.getElem?_cons_succ, List.set_cons_zero, List.set_cons_succ, in_alph]
      exact ⟨by simp [lettB], trivial⟩
  · have h2 : ¬ ((w.length : Int) = 1) := by omega
    rw [decide_eq_false h2, decide_eq_false h]
    simp only [ev, evs, evo, evT, evto, evF, evQ, evI, ex, wr_bind, wr_ok, wt_o, wt_seq, wt_turn, wt_next, wt_brk, wt_cont, wt_ret, R.bind_ok, R.o_ok, List.getElem?_cons_zero, List.getElem?_cons_succ, List.set_cons_zero, List.set_cons_succ]
    exact ⟨rfl, trivial⟩
theorem is_name_run {f g h fw k : Nat} {w : List Nat} {S : Sto} (hT : T f = some ⟨1, 1, b_is_name fw h⟩) (hW : T fw = some ⟨1, 2, b_is_word g⟩) (hG : G g = some (.str alph)) (hH : G h = some (.int 8)) (hl : w.length ≤ lim) : run T G (k + 2) f [.str w] S = .ok (.bl (decide (1 ≤ w.length) && decide (w.length ≤ 8) && lettB w)) S := by
  apply run_of
  rw [wr_run hT rfl]
  show Wt (exs _ _ (b_is_name fw h) [some (.str w)] S) _
  unfold b_is_name
  rw [wt_cons]
  simp only [ev, evs, evo, evT, evto, evF, evQ, evI, ex, wr_bind, wr_ok, wt_o, wt_seq, wt_turn, wt_next, wt_brk, wt_cont, wt_ret, R.bind_ok, R.o_ok, List.getElem?_cons_zero, List.getElem?_cons_succ, List.set_cons_zero, List.set_cons_succ, len_str hl, c_le, hH, is_word_run hW hG hl]
  by_cases h1 : 1 ≤ w.length
  · have e1 : ((1 : Int) ≤ (w.length : Int)) := by omega
    rw [decide_eq_true e1, decide_eq_true h1]
    simp only [ev, evs, evo, evT, evto, evF, evQ, evI, ex, wr_bind, wr_ok, wt_o, wt_seq, wt_turn, wt_next, wt_brk, wt_cont, wt_ret, R.bind_ok, R.o_ok, List.getElem?_cons_zero, List.getElem?_cons_succ, List.set_cons_zero, List.set_cons_succ, c_le]
    by_cases h2 : w.length ≤ 8
    · have e2 : ((w.length : Int) ≤ 8) := by omega
      rw [decide_eq_true e2, decide_eq_true h2]
      simp only [ev, evs, evo, evT, evto, evF, evQ, evI, ex, wr_bind, wr_ok, wt_o, wt_seq, wt_turn, wt_next, wt_brk, wt_cont, wt_ret, R.bind_ok, R.o_ok, List.getElem?_cons_zero, List.getElem?_cons_succ, List.set_cons_zero, List.set_cons_succ]
      exact ⟨rfl, trivial⟩
    · have e2 : ¬ ((w.length : Int) ≤ 8) := by omega
      rw [decide_eq_false e2, decide_eq_false h2]
      simp only [ev, evs, evo, evT, evto, evF, evQ, evI, ex, wr_bind, wr_ok, wt_o, wt_seq, wt_turn, wt_next, wt_brk, wt_cont, wt_ret, R.bind_ok, R.o_ok, List.getElem?_cons_zero, List.getElem?_cons_succ, List.set_cons_zero, List.set_cons_succ]
      exact ⟨rfl, trivial⟩
  · have e1 : ¬ ((1 : Int) ≤ (w.length : Int)) := by omega
    rw [decide_eq_false e1, decide_eq_false h1]
    simp only [ev, evs, evo, evT, evto, evF, evQ, evI, ex, wr_bind, wr_ok, wt_o, wt_seq, wt_turn, wt_next, wt_brk, wt_cont, wt_ret, R.bind_ok, R.o_ok, List.getElem?_cons_zero, List.getElem?_cons_succ, List.set_cons_zero, List.set_cons_succ]
    exact ⟨rfl, trivial⟩
end
end Pl

set_option maxHeartbeats 4000000
/-! Words within words. -/
namespace Pl
open PySem L2
/-- the places of the first letters: small in great, whose first letter stands at k -/
def gr : List Nat → List Nat → Nat → Option (List Nat)
  | [], _, _ => some []
  | _ :: _, [], _ => none
  | c :: s, d :: r, k => if d = c then (gr s r (k + 1)).map (k :: ·) else gr (c :: s) r (k + 1)
theorem gr_len : ∀ (r s : List Nat) (k : Nat) (ps : List Nat), gr s r k = some ps → s.length ≤ r.length ∧ ps.length = s.length
  | r, [], k, ps, h => by simp only [gr] at h; cases h; simp
  | [], c :: s, k, ps, h => by simp only [gr] at h; cases h
  | d :: r, c :: s, k, ps, h => by
    simp only [gr] at h
    split at h
    · cases q : gr s r (k + 1) with
      | none => rw [q] at h; cases h
      | some qs =>
        rw [q] at h
        cases h
        have := gr_len r s (k + 1) qs q
        simp only [List.length_cons]
        omega
    · have := gr_len r (c :: s) (k + 1) ps h
      simp only [List.length_cons] at this ⊢
      omega
theorem gr_self : ∀ (r : List Nat) (k : Nat), (gr r r k).isSome = true
  | [], k => rfl
  | c :: r, k => by
    simp only [gr, if_true]
    rw [Option.isSome_map]
    exact gr_self r (k + 1)
/-- no such letter on the way -/
theorem gr_none {c : Nat} {s : List Nat} : ∀ (r : List Nat) (k : Nat), c ∉ r → gr (c :: s) r k = none
  | [], k, h => by simp only [gr]
  | d :: r, k, h => by
    simp only [List.mem_cons, not_or] at h
    simp only [gr, if_neg (Ne.symm h.1)]
    exact gr_none r (k + 1) h.2
theorem gr_at {c : Nat} {s : List Nat} : ∀ (r : List Nat) (k i : Nat), r[i]? = some c → (∀ j, j < i → r[j]? ≠ some c) → gr (c :: s) r k = (gr s (r.drop (i + 1)) (k + i + 1)).map (fun z => (k + i) :: z)
  | [], k, i, h, _ => by simp at h
  | d :: r, k, 0, h, _ => by
    simp at h
    subst h
    simp only [gr, if_true]
    rfl
  | d :: r, k, i + 1, h, hn => by
    have h1 : d ≠ c := fun e => hn 0 (by omega) (by simp [e])
    simp only [gr, if_neg h1]
    rw [gr_at r (k + 1) i (by simpa using h) (fun j hj => by have := hn (j + 1) (by omega); simpa using this)]
    rw [show k + 1 + i = k + (i + 1) by omega]
    rfl
/-- find, of one letter -/
theorem find_one (a : List Nat) (c n : Nat) (hn : n ≤ a.length) :
    (Txt.find3 ⟨a.toArray⟩ ⟨[c].toArray⟩ (n : Int) = -1 ∧ c ∉ a.drop n) ∨
    ∃ i, (a.drop n)[i]? = some c ∧ (∀ j, j < i → (a.drop n)[j]? ≠ some c) ∧ Txt.find3 ⟨a.toArray⟩ ⟨[c].toArray⟩ (n : Int) = ((n + i : Nat) : Int) := by
  have hl : (⟨a.toArray⟩ : Str).length = a.length := by simp [Str.length]
  have hf : fromIndex (⟨a.toArray⟩ : Str).length (n : Int) = n := by
    unfold fromIndex
    rw [if_neg (by omega)]
    omega
  have hat : ∀ i, StrLaws.At (⟨a.toArray⟩ : Str) ⟨#[c]⟩ (⟨a.toArray⟩ : Str).length i ↔ a[i]? = some c := fun i => by
    have := StrLaws.subAt_one (⟨a.toArray⟩ : Str) c i
    unfold StrLaws.At
    rw [this]
  unfold Txt.find3
  rw [hf]
  show ((match Builtin.Str.occurrences (⟨a.toArray⟩ : Str) ⟨#[c]⟩ n (⟨a.toArray⟩ : Str).length 1 with | k :: _ => (k : Int) | [] => -1) = -1 ∧ _) ∨ ∃ i, _ ∧ _ ∧ (match Builtin.Str.occurrences (⟨a.toArray⟩ : Str) ⟨#[c]⟩ n (⟨a.toArray⟩ : Str).length 1 with | k :: _ => (k : Int) | [] => -1) = _
  rw [StrLaws.occ_eq]
  have sz := StrLaws.occ_length_le (⟨a.toArray⟩ : Str) ⟨#[c]⟩ n (⟨a.toArray⟩ : Str).length 1
  rw [StrLaws.occ_eq] at sz
  rcases StrLaws.occ_first (⟨a.toArray⟩ : Str) ⟨#[c]⟩ (⟨a.toArray⟩ : Str).length 1 (Nat.le_refl 1) (List.range' n ((⟨a.toArray⟩ : Str).length + 1 - n)) n (fun i hi => by simp [List.mem_range'] at hi; omega) with ⟨h0, hno⟩ | ⟨pre, x, post, hs, h0, hx, hno⟩
  · left
    rw [h0]
    refine ⟨rfl, fun hm => ?_⟩
    obtain ⟨j, hj⟩ := List.getElem?_of_mem hm
    rw [List.getElem?_drop] at hj
    have hlt := (List.getElem?_eq_some_iff.mp hj).1
    exact hno (n + j) (by rw [hl]; simp [List.mem_range']; omega) ((hat _).mpr hj)
  · right
    have hpre : pre.length = x - n ∧ n ≤ x ∧ ∀ k, n ≤ k → k < x → k ∈ pre := by
      have e1 : (List.range' n ((⟨a.toArray⟩ : Str).length + 1 - n))[pre.length]? = some x := by rw [hs]; simp
      have hlen := congrArg List.length hs
      simp only [List.length_range', List.length_append, List.length_cons] at hlen
      rw [List.getElem?_range' (by omega)] at e1
      have e2 : n + 1 * pre.length = x := Option.some.inj e1
      refine ⟨by omega, by omega, fun k h1 h2 => ?_⟩
      have hk : (List.range' n ((⟨a.toArray⟩ : Str).length + 1 - n))[k - n]? = pre[k - n]? := by rw [hs, List.getElem?_append_left (by omega)]
      rw [List.getElem?_range' (by omega)] at hk
      have := List.mem_of_getElem? hk.symm
      rwa [show n + 1 * (k - n) = k by omega] at this
    obtain ⟨p1, p2, p3⟩ := hpre
    refine ⟨x - n, ?_, fun j hj e => ?_, ?_⟩
    · rw [List.getElem?_drop, show n + (x - n) = x by omega]
      exact (hat x).mp hx
    · rw [List.getElem?_drop] at e
      exact hno (n + j) (p3 _ (by omega) (by omega)) ((hat _).mpr e)
    · generalize ((forIn (m := Id) (List.range' n ((⟨a.toArray⟩ : Str).length + 1 - n)) ((#[] : Array Nat), n) (StrLaws.occBody ⟨a.toArray⟩ ⟨#[c]⟩ (⟨a.toArray⟩ : Str).length 1)).run.fst) = arr at h0 ⊢
      obtain ⟨l⟩ := arr
      cases l with
      | nil => simp at h0
      | cons y r =>
        simp at h0
        subst h0
        show (y : Int) = _
        rw [show n + (y - n) = y by omega]
def b_spots : List Sm := [
  .asg 2 (.new (.lst [])),
  .asg 3 (.cst (.int 0)),
  .for_ [4] false (.str (.var 0)) [.asg 3 (.find3 (.var 1) (.var 4) (.var 3)), .if_ (.cmp .lt (.var 3) (.cst (.int 0))) [.ret (.cst .non)] [], .expr (.app (.var 2) (.var 3)), .aug .add 3 (.cst (.int 1))],
  .ret (.var 2)]
def b_within (s : Nat) : List Sm := [.ret (.cmp .notN (.call s [(.var 0), (.var 1)]) (.cst .non))]
def posD (ps : List Nat) : List D := ps.map fun (p : Nat) => D.int (p : Int)
theorem set_last {S : Sto} {x y : Ob} : (S ++ [x]).set S.length y = S ++ [y] := by
  rw [List.set_append_right _ _ (Nat.le_refl _), Nat.sub_self]
  rfl
theorem at_last {S : Sto} {x : Ob} : (S ++ [x])[S.length]? = some x := by simp
section
variable {T : Tab} {G : Nat → Option D}
theorem app_last {C : Nat → List D → Sto → R D} {o e : Ex} {ρ : Slo} {S : Sto} {ds : List D} {d : D} (h1 : ev C G o ρ (S ++ [.lst ds]) = .ok (.ref S.length) (S ++ [.lst ds])) (h2 : ev C G e ρ (S ++ [.lst ds]) = .ok d (S ++ [.lst ds])) (hl : ds.length < lim) : ev C G (.app o e) ρ (S ++ [.lst ds]) = .ok .non (S ++ [.lst (ds ++ [d])]) := by
  simp only [ev, h1, R.bind_ok, at_last, h2, if_pos hl, set_last]
theorem spots_run {f k : Nat} {s r : List Nat} {S : Sto} {P : D → Sto → Prop} (hT : T f = some ⟨2, 5, b_spots⟩) (hs : s.length < lim)
    (h : ∀ d fs, (match gr s r 0 with | some ps => d = .ref S.length ∧ fs = posD ps | none => d = .non) → P d (S ++ [.lst fs])) : Wr (run T G (k + 1) f [.str s, .str r] S) P := by
  rw [wr_run hT rfl]
  show Wt (exs _ _ b_spots [some (.str s), some (.str r), none, none, none] S) _
  unfold b_spots
  rw [wt_cons]
  simp only [ev, evs, evo, evT, evto, evF, evQ, evI, ex, wr_bind, wr_ok, wt_o, wt_seq, wt_turn, wt_next, wt_brk, wt_cont, wt_ret, R.bind_ok, R.o_ok, List.getElem?_cons_zero, List.getElem?_cons_succ, List.set_cons_zero, List.set_cons_succ, List.length_nil, Nat.zero_le, if_true]
  rw [wt_cons]
  simp only [ev, evs, evo, evT, evto, evF, evQ, evI, ex, wr_bind, wr_ok, wt_o, wt_seq, wt_turn, wt_next, wt_brk, wt_cont, wt_ret, R.bind_ok, R.o_ok, List.getElem?_cons_zero, List.getElem?_cons_succ, List.set_cons_zero, List.set_cons_succ]
  rw [wt_cons]
  simp only [ev, evs, evo, evT, evto, evF, evQ, evI, ex, wr_bind, wr_ok, wt_o, wt_seq, wt_turn, wt_next, wt_brk, wt_cont, wt_ret, R.bind_ok, R.o_ok, List.getElem?_cons_zero, List.getElem?_cons_succ, List.set_cons_zero, List.set_cons_succ]
  refine for_inv (fun i ρ S' => ∃ (ps : List Nat) (n : Nat) (x : Option D), i ≤ s.length ∧ ρ = [some (.str s), some (.str r), some (.ref S.length), some (.int (n : Int)), x] ∧ S' = S ++ [.lst (posD ps)] ∧ ps.length = i ∧ n ≤ r.length ∧ gr s r 0 = (gr (s.drop i) (r.drop n) n).map (ps ++ ·))
    ⟨[], 0, none, Nat.zero_le _, rfl, rfl, rfl, Nat.zero_le _, by simp⟩ (fun i d ρ S' hd hI => ?_) (fun _ _ _ _ _ _ _ _ n hn => nomatch hn) (fun ρ S' hI => ?_)
  · obtain ⟨ps, n, x, hi, rfl, rfl, hp, hn, hg⟩ := hI
    rw [List.getElem?_map] at hd
    cases e : s[i]? with
    | none => rw [e] at hd; cases hd
    | some c =>
      rw [e] at hd
      cases hd
      have hlt := (List.getElem?_eq_some_iff.mp e).1
      have hdrop : s.drop i = c :: s.drop (i + 1) := by
        rw [List.drop_eq_getElem_cons hlt]
        rw [List.getElem?_eq_getElem hlt] at e
        rw [Option.some.inj e]
      rw [hdrop] at hg
      refine ⟨[some (.str s), some (.str r), some (.ref S.length), some (.int (n : Int)), some (.str [c])], rfl, ?_⟩
      rw [wt_cons]
      simp only [ev, evs, evo, evT, evto, evF, evQ, evI, ex, wr_bind, wr_ok, wt_o, wt_seq, wt_turn, wt_next, wt_brk, wt_cont, wt_ret, R.bind_ok, R.o_ok, List.getElem?_cons_zero, List.getElem?_cons_succ, List.set_cons_zero, List.set_cons_succ]
      rw [wt_cons]
      rcases find_one r c n hn with ⟨h1, h2⟩ | ⟨j, h1, h2, h3⟩
      · rw [h1]
        simp only [ev, evs, evo, evT, evto, evF, evQ, evI, ex, wr_bind, wr_ok, wt_o, wt_seq, wt_turn, wt_next, wt_brk, wt_cont, wt_ret, R.bind_ok, R.o_ok, List.getElem?_cons_zero, List.getElem?_cons_succ, List.set_cons_zero, List.set_cons_succ, c_lt]
        have : decide ((-1 : Int) < 0) = true := by decide
        rw [this]
        simp only [ev, evs, evo, evT, evto, evF, evQ, evI, ex, wr_bind, wr_ok, wt_o, wt_seq, wt_turn, wt_next, wt_brk, wt_cont, wt_ret, R.bind_ok, R.o_ok, List.getElem?_cons_zero, List.getElem?_cons_succ, List.set_cons_zero, List.set_cons_succ]
        rw [wt_cons]
        simp only [ev, evs, evo, evT, evto, evF, evQ, evI, ex, wr_bind, wr_ok, wt_o, wt_seq, wt_turn, wt_next, wt_brk, wt_cont, wt_ret, R.bind_ok, R.o_ok, List.getElem?_cons_zero, List.getElem?_cons_succ, List.set_cons_zero, List.set_cons_succ]
        rw [gr_none _ _ h2] at hg
        exact h _ _ (by rw [hg]; rfl)
      · rw [h3]
        simp only [ev, evs, evo, evT, evto, evF, evQ, evI, ex, wr_bind, wr_ok, wt_o, wt_seq, wt_turn, wt_next, wt_brk, wt_cont, wt_ret, R.bind_ok, R.o_ok, List.getElem?_cons_zero, List.getElem?_cons_succ, List.set_cons_zero, List.set_cons_succ, c_lt]
        have : decide (((n + j : Nat) : Int) < 0) = false := decide_eq_false (by omega)
        rw [this]
        simp only [ev, evs, evo, evT, evto, evF, evQ, evI, ex, wr_bind, wr_ok, wt_o, wt_seq, wt_turn, wt_next, wt_brk, wt_cont, wt_ret, R.bind_ok, R.o_ok, List.getElem?_cons_zero, List.getElem?_cons_succ, List.set_cons_zero, List.set_cons_succ]
        rw [wt_nil]
        dsimp only
        rw [wt_cons]
        have hj := (List.getElem?_eq_some_iff.mp h1).1
        rw [List.length_drop] at hj
        have ha := app_last (C := run T G k) (G := G) (o := .var 2) (e := .var 3) (ρ := [some (.str s), some (.str r), some (.ref S.length), some (.int ((n + j : Nat) : Int)), some (.str [c])]) (S := S) (ds := posD ps) (d := .int ((n + j : Nat) : Int)) (by simp only [ev, List.getElem?_cons_zero, List.getElem?_cons_succ]) (by simp only [ev, List.getElem?_cons_zero, List.getElem?_cons_succ]) (by simp [posD]; omega)
        show Wt ((ev _ _ _ _ _).o _) _
        rw [ha]
        simp only [R.o_ok, wt_next]
        rw [wt_cons]
        simp only [ev, evs, evo, evT, evto, evF, evQ, evI, ex, wr_bind, wr_ok, wt_o, wt_seq, wt_turn, wt_next, wt_brk, wt_cont, wt_ret, R.bind_ok, R.o_ok, List.getElem?_cons_zero, List.getElem?_cons_succ, List.set_cons_zero, List.set_cons_succ, a_add]
        rw [wt_nil]
        refine ⟨ps ++ [n + j], n + j + 1, some (.str [c]), by omega, ?_, ?_, by simp [hp], by omega, ?_⟩
        · rw [show ((n + j : Nat) : Int) + 1 = ((n + j + 1 : Nat) : Int) by omega]
        · unfold posD
          rw [List.map_append]
          rfl
        · rw [hg, gr_at _ _ j h1 h2, Option.map_map, List.drop_drop]
          rw [show n + (j + 1) = n + j + 1 by omega]
          congr 1
          funext z
          simp
  · obtain ⟨ps, n, x, hi, rfl, rfl, hp, hn, hg⟩ := hI
    dsimp only
    rw [wt_cons]
    simp only [ev, evs, evo, evT, evto, evF, evQ, evI, ex, wr_bind, wr_ok, wt_o, wt_seq, wt_turn, wt_next, wt_brk, wt_cont, wt_ret, R.bind_ok, R.o_ok, List.getElem?_cons_zero, List.getElem?_cons_succ, List.set_cons_zero, List.set_cons_succ]
    rw [List.length_map, List.drop_length] at hg
    have hg2 : gr s r 0 = some ps := by
      rw [hg]
      cases r.drop n <;> simp [gr]
    exact h _ _ (by rw [hg2]; exact ⟨rfl, rfl⟩)
theorem within_run {f sp k : Nat} {s r : List Nat} {S : Sto} {P : D → Sto → Prop} (hT : T f = some ⟨2, 2, b_within sp⟩) (hS : T sp = some ⟨2, 5, b_spots⟩) (hs : s.length < lim)
    (h : ∀ fs, P (.bl (gr s r 0).isSome) (S ++ [.lst fs])) : Wr (run T G (k + 2) f [.str s, .str r] S) P := by
  rw [wr_run hT rfl]
  show Wt (exs _ _ (b_within sp) [some (.str s), some (.str r)] S) _
  unfold b_within
  rw [wt_cons]
  simp only [ev, evs, evo, evT, evto, evF, evQ, evI, ex, wr_bind, wr_ok, wt_o, wt_seq, wt_turn, wt_next, wt_brk, wt_cont, wt_ret, R.bind_ok, R.o_ok, List.getElem?_cons_zero, List.getElem?_cons_succ, List.set_cons_zero, List.set_cons_succ]
  refine spots_run hS hs fun d fs hd => ?_
  simp only [ev, evs, evo, evT, evto, evF, evQ, evI, ex, wr_bind, wr_ok, wt_o, wt_seq, wt_turn, wt_next, wt_brk, wt_cont, wt_ret, R.bind_ok, R.o_ok, List.getElem?_cons_zero, List.getElem?_cons_succ, List.set_cons_zero, List.set_cons_succ, c_notN]
  cases q : gr s r 0 with
  | none =>
    rw [q] at hd
    subst hd
    have := h fs
    rw [q] at this
    exact this
  | some ps =>
    rw [q] at hd
    obtain ⟨rfl, rfl⟩ := hd
    have := h (posD ps)
    rw [q] at this
    exact this
end
end Pl

set_option maxRecDepth 100000
set_option maxHeartbeats 0
namespace Lk02
open PySem PySem.Spec PyProof.Rows L2 Pl
def top (i : Nat) : Stmt := PySem.Challenge.pw_leakpost_k02_words_within_words.main.body.getD i (.Pass ⟨0, 0, 0, 0⟩)
/-- spots: small great found at letter -/
def b_spots : List Sm := Pl.b_spots
def d_spots : Dn := ⟨top 1, ["small", "great"], ["small", "great", "found", "at", "letter"], ⟨2, 5, b_spots⟩⟩
/-- within: small great -/
def b_within : List Sm := Pl.b_within 0
def d_within : Dn := ⟨top 2, ["small", "great"], ["small", "great"], ⟨2, 2, b_within⟩⟩
/-- _law_bag: _law_script _law_seed _law_cell -/
def b__law_bag : List Sm := Pl.b_bag
def d__law_bag : Dn := ⟨top 4, ["_law_script"], ["_law_script", "_law_seed", "_law_cell"], ⟨1, 3, b__law_bag⟩⟩
/-- _law_pull: _law_bag_here _law_many _law_cell _law_one _law_two _law_rest -/
def b__law_pull : List Sm := Pl.b_pull
def d__law_pull : Dn := ⟨top 5, ["_law_bag_here", "_law_many"], ["_law_bag_here", "_law_many", "_law_cell", "_law_one", "_law_two", "_law_rest"], ⟨2, 6, b__law_pull⟩⟩
/-- _law_of: _law_bag_here _law_some -/
def b__law_of : List Sm := Pl.b_of 3
def d__law_of : Dn := ⟨top 6, ["_law_bag_here", "_law_some"], ["_law_bag_here", "_law_some"], ⟨2, 2, b__law_of⟩⟩
/-- _law_same: _law_found _law_due _law_a _law_b -/
def b__law_same : List Sm := Pl.b_same 5
def d__law_same : Dn := ⟨top 7, ["_law_found", "_law_due"], ["_law_found", "_law_due", "_law_a", "_law_b"], ⟨2, 4, b__law_same⟩⟩
/-- _law_letters: _law_bag_here _law_alphabet _law_first _law_by _law_k -/
def b__law_letters : List Sm := Pl.b_letters 3 4
def d__law_letters : Dn := ⟨top 8, ["_law_bag_here"], ["_law_bag_here", "_law_alphabet", "_law_first", "_law_by", "_law_k"], ⟨1, 5, b__law_letters⟩⟩
/-- _law_word: _law_bag_here _law_letters_here _law_top _law_k -/
def b__law_word : List Sm := Pl.b_word 3 4
def d__law_word : Dn := ⟨top 9, ["_law_bag_here", "_law_letters_here", "_law_top"], ["_law_bag_here", "_law_letters_here", "_law_top", "_law_k"], ⟨3, 4, b__law_word⟩⟩
/-- _law_first_spots: _law_small _law_great _law_found _law_at -/
def b__law_first_spots : List Sm := [
  .asg 2 (.new (.lst [])),
  .for_ [3] false (.rng (.len (.var 1))) [.if_ (.and_ (.cmp .lt (.len (.var 2)) (.len (.var 0))) (.cmp .eq (.idx (.var 1) (.var 3)) (.idx (.var 0) (.len (.var 2))))) [.expr (.app (.var 2) (.var 3))] []],
  .ret (.ifx (.cmp .eq (.len (.var 2)) (.len (.var 0))) (.var 2) (.cst .non))]
def d__law_first_spots : Dn := ⟨top 10, ["_law_small", "_law_great"], ["_law_small", "_law_great", "_law_found", "_law_at"], ⟨2, 4, b__law_first_spots⟩⟩
/-- _law_struck: _law_bag_here _law_letters_here _law_word_here _law_left _law_kind _law_letter -/
def b__law_struck : List Sm := [
  .asg 3 (.new (.lc [("_law_letter", 5)] [5] false (.str (.var 2)) (some (.cmp .gt (.call 3 [(.var 0), (.cst (.int 3))]) (.cst (.int 0)))) (.var 5))),
  .asg 4 (.call 3 [(.var 0), (.cst (.int 4))]),
  .if_ (.cmp .eq (.var 4) (.cst (.int 0))) [.expr (.lm .insert (.var 3) [(.call 3 [(.var 0), (.bin .add (.len (.var 3)) (.cst (.int 1)))]), (.call 4 [(.var 0), (.var 1)])])] [],
  .if_ (.cmp .eq (.var 4) (.cst (.int 1))) [.asg 3 (.rev (.var 3))] [],
  .ret (.join (.cst (.str [])) (.ex (.var 3)))]
def d__law_struck : Dn := ⟨top 11, ["_law_bag_here", "_law_letters_here", "_law_word_here"], ["_law_bag_here", "_law_letters_here", "_law_word_here", "_law_left", "_law_kind", "_law_letter"], ⟨3, 6, b__law_struck⟩⟩
/-- law: _law_script _law_bag_here _law_letters_here _law_turn _law_far _law_near _law_due -/
def b_law : List Sm := [
  .asg 1 (.call 2 [(.var 0)]),
  .asg 2 (.call 6 [(.var 1)]),
  .for_ [3] false (.rng (.cst (.int 10))) [.asg 4 (.call 7 [(.var 1), (.sli (.var 2) none (some (.bin .add (.cst (.int 1)) (.call 3 [(.var 1), (.cst (.int 3))])))), (.cst (.int 12))]), .asg 5 (.call 9 [(.var 1), (.var 2), (.var 4)]), .asg 6 (.call 8 [(.var 5), (.var 4)]), .if_ (.not_ (.ex (.call 5 [(.new (.lst [(.call 1 [(.var 5), (.var 4)]), (.call 0 [(.var 5), (.var 4)])])), (.new (.lst [(.cmp .notN (.var 6) (.cst .non)), (.var 6)]))]))) [.ret (.cst (.bl false))] [], .if_ (.or_ (.not_ (.ex (.call 1 [(.cst (.str [])), (.var 4)]))) (.or_ (.not_ (.ex (.call 1 [(.var 4), (.var 4)]))) (.ex (.call 1 [(.bin .add (.var 4) (.idx (.var 2) (.cst (.int 0)))), (.var 4)])))) [.ret (.cst (.bl false))] []],
  .ret (.cst (.bl true))]
def d_law : Dn := ⟨top 12, ["_law_script"], ["_law_script", "_law_bag_here", "_law_letters_here", "_law_turn", "_law_far", "_law_near", "_law_due"], ⟨1, 7, b_law⟩⟩
def dl : List Dn := [d_spots, d_within, d__law_bag, d__law_pull, d__law_of, d__law_same, d__law_letters, d__law_word, d__law_first_spots, d__law_struck, d_law]
def nl : List Str := ["spots", "within", "_law_bag", "_law_pull", "_law_of", "_law_same", "_law_letters", "_law_word", "_law_first_spots", "_law_struck", "law"]
def kwl : List (Nat × Nat × List Str × List Nat) := []
def gvl : List (Nat × D) := []
def L : Lw := ⟨dl, nl, kwl, gvl⟩
def loose : List PySem.Str := (["spots", "within", "_law_bag", "_law_pull", "_law_of", "_law_same", "_law_letters", "_law_word", "_law_first_spots", "_law_struck"] : List PySem.Str)
def lawF : Nat := 10
abbrev R : PySem.W.OpenRow := PySem.W.OpenLaw.row PySem.Challenge.rw_leakpost_k02_words_within_words
def lawAt : Nat := 12
theorem bd : ∀ (f : Nat) (d : Dn), dl[f]? = some d → BindP d (L.nms f)
  | 0, d, h => by cases h; exact fun _ _ _ _ _ _ us hl => match us, hl with | [_, _], _ => rfl
  | 1, d, h => by cases h; exact fun _ _ _ _ _ _ us hl => match us, hl with | [_, _], _ => rfl
  | 2, d, h => by cases h; exact fun _ _ _ _ _ _ us hl => match us, hl with | [_], _ => rfl
  | 3, d, h => by cases h; exact fun _ _ _ _ _ _ us hl => match us, hl with | [_, _], _ => rfl
  | 4, d, h => by cases h; exact fun _ _ _ _ _ _ us hl => match us, hl with | [_, _], _ => rfl
  | 5, d, h => by cases h; exact fun _ _ _ _ _ _ us hl => match us, hl with | [_, _], _ => rfl
  | 6, d, h => by cases h; exact fun _ _ _ _ _ _ us hl => match us, hl with | [_], _ => rfl
  | 7, d, h => by cases h; exact fun _ _ _ _ _ _ us hl => match us, hl with | [_, _, _], _ => rfl
  | 8, d, h => by cases h; exact fun _ _ _ _ _ _ us hl => match us, hl with | [_, _], _ => rfl
  | 9, d, h => by cases h; exact fun _ _ _ _ _ _ us hl => match us, hl with | [_, _, _], _ => rfl
  | 10, d, h => by cases h; exact fun _ _ _ _ _ _ us hl => match us, hl with | [_], _ => rfl
  | n + 11, d, h => by cases h
theorem kb : ∀ (f : Nat) (d : Dn), dl[f]? = some d → ∀ q ∈ kwl, q.1 = f → KwP d (L.nms f) q.2.1 q.2.2.1 q.2.2.2 := by
  intro f d h q hq e
  subst e
  cases hq
theorem ok : L.Ok := ⟨by kernel_rfl, by decide, bd, kb⟩
abbrev hk : PySem.W.Hook := He.hookD 4 L.fa L.fn
def ob (s : PySem.W.SharedT) : He.AlD := He.obsDG 4 L.fa L.fn (HandSHeadRun.getT s)
theorem ob_eq (s : PySem.W.SharedT) : ob s = hk.obs s.abs := He.obsDG_eq (HandSHeadRun.getT_eq s)
theorem head (w : World) : HandSHeadRun.RunEq R (PySem.W.view R.prog [lawAt]) hk ob 3000 loose w := by
  intro os
  kernel_rfl
end Lk02
namespace Lk02
open PySem Pl
theorem t_spots : L.tab.tab 0 = some ⟨2, 5, Pl.b_spots⟩ := rfl
theorem t_within : L.tab.tab 1 = some ⟨2, 2, Pl.b_within 0⟩ := rfl
theorem t_bag : L.tab.tab 2 = some ⟨1, 3, b_bag⟩ := rfl
theorem t_pull : L.tab.tab 3 = some ⟨2, 6, b_pull⟩ := rfl
theorem t_of : L.tab.tab 4 = some ⟨2, 2, b_of 3⟩ := rfl
theorem t_same : L.tab.tab 5 = some ⟨2, 4, b_same 5⟩ := rfl
theorem t_letters : L.tab.tab 6 = some ⟨1, 5, b_letters 3 4⟩ := rfl
theorem t_word : L.tab.tab 7 = some ⟨3, 4, b_word 3 4⟩ := rfl
theorem t_first : L.tab.tab 8 = some ⟨2, 4, b__law_first_spots⟩ := rfl
theorem t_struck : L.tab.tab 9 = some ⟨3, 6, b__law_struck⟩ := rfl
/-- what stands stays -/
def Kp (S S' : Sto) : Prop := ∀ (i : Nat) (x : Ob), S[i]? = some x → S'[i]? = some x
theorem Kp.new {S : Sto} {x : Ob} : Kp S (S ++ [x]) := fun i y h => by rw [List.getElem?_append_left (List.getElem?_eq_some_iff.mp h).1]; exact h
theorem Kp.trans {S S1 S2 : Sto} (a : Kp S S1) (b : Kp S1 S2) : Kp S S2 := fun i x h => b i x (a i x h)
theorem first_run {k : Nat} {s r : List Nat} {S : Sto} {P : D → Sto → Prop} (hs : s.length < lim) (hr : r.length ≤ lim)
    (h : ∀ d fs, (match gr s r 0 with | some ps => d = .ref S.length ∧ fs = posD ps | none => d = .non) → P d (S ++ [.lst fs])) : Wr (run L.tab.tab L.G (k + 1) 8 [.str s, .str r] S) P := by
  rw [wr_run t_first rfl]
  show Wt (exs _ _ b__law_first_spots [some (.str s), some (.str r), none, none] S) _
  unfold b__law_first_spots
  rw [wt_cons]
  simp only [ev, evs, evo, evT, evto, evF, evQ, evI, ex, wr_bind, wr_ok, wt_o, wt_seq, wt_turn, wt_next, wt_brk, wt_cont, wt_ret, R.bind_ok, R.o_ok, List.getElem?_cons_zero, List.getElem?_cons_succ, List.set_cons_zero, List.set_cons_succ, List.length_nil, Nat.zero_le, if_true]
  rw [wt_cons]
  simp only [ev, evs, evo, evT, evto, evF, evQ, evI, ex, wr_bind, wr_ok, wt_o, wt_seq, wt_turn, wt_next, wt_brk, wt_cont, wt_ret, R.bind_ok, R.o_ok, List.getElem?_cons_zero, List.getElem?_cons_succ, List.set_cons_zero, List.set_cons_succ, len_str hr]
  have hr2 : (r.length : Int) ≤ 100000 := by have : r.length ≤ 100000 := hr; omega
  rw [if_pos (by omega)]
  simp only [ev, evs, evo, evT, evto, evF, evQ, evI, ex, wr_bind, wr_ok, wt_o, wt_seq, wt_turn, wt_next, wt_brk, wt_cont, wt_ret, R.bind_ok, R.o_ok, List.getElem?_cons_zero, List.getElem?_cons_succ, List.set_cons_zero, List.set_cons_succ]
  have hs' : s.length ≤ lim := Nat.le_of_lt hs
  refine for_inv (fun i ρ S' => ∃ (ps : List Nat) (x : Option D), ρ = [some (.str s), some (.str r), some (.ref S.length), x] ∧ S' = S ++ [.lst (posD ps)] ∧ ps.length ≤ s.length ∧ gr s r 0 = (gr (s.drop ps.length) (r.drop i) i).map (fun z => ps ++ z))
    ⟨[], none, rfl, rfl, Nat.zero_le _, by simp⟩ (fun i d ρ S' hd hI => ?_) (fun _ _ _ _ _ _ _ _ n hn => nomatch hn) (fun ρ S' hI => ?_)
  · obtain ⟨ps, x, rfl, rfl, hp, hg⟩ := hI
    have hi : d = .int (i : Int) ∧ i < r.length := by
      rw [List.getElem?_map] at hd
      cases e : (List.range (r.length : Int).toNat)[i]? with
      | none => rw [e] at hd; cases hd
      | some m =>
        rw [e] at hd
        cases hd
        obtain ⟨h1, h2⟩ := List.getElem?_eq_some_iff.mp e
        simp at h1 h2
        subst h2
        exact ⟨rfl, h1⟩
    obtain ⟨rfl, hi⟩ := hi
    have hri : r[i]? = some r[i] := List.getElem?_eq_getElem hi
    have hdr : r.drop i = r[i] :: r.drop (i + 1) := List.drop_eq_getElem_cons hi
    rw [hdr] at hg
    refine ⟨[some (.str s), some (.str r), some (.ref S.length), some (.int (i : Int))], rfl, ?_⟩
    have hpl : (posD ps).length = ps.length := by simp [posD]
    have e1 : lenV (.ref S.length) (S ++ [Ob.lst (posD ps)]) = .ok (.int ps.length) (S ++ [Ob.lst (posD ps)]) := by rw [len_lst at_last, hpl]
    rw [wt_cons]
    simp only [ev, evs, evo, evT, evto, evF, evQ, evI, ex, wr_bind, wr_ok, wt_o, wt_seq, wt_turn, wt_next, wt_brk, wt_cont, wt_ret, R.bind_ok, R.o_ok, List.getElem?_cons_zero, List.getElem?_cons_succ, List.set_cons_zero, List.set_cons_succ, e1, len_str hs', c_lt]
    by_cases hlt : ps.length < s.length
    · have e2 : decide ((ps.length : Int) < (s.length : Int)) = true := decide_eq_true (by omega)
      have hsi : s[ps.length]? = some s[ps.length] := List.getElem?_eq_getElem hlt
      have hds : s.drop ps.length = s[ps.length] :: s.drop (ps.length + 1) := List.drop_eq_getElem_cons hlt
      rw [hds] at hg
      simp only [e2, ev, evs, evo, evT, evto, evF, evQ, evI, ex, wr_bind, wr_ok, wt_o, wt_seq, wt_turn, wt_next, wt_brk, wt_cont, wt_ret, R.bind_ok, R.o_ok, List.getElem?_cons_zero, List.getElem?_cons_succ, List.set_cons_zero, List.set_cons_succ, idx_str hr hri, e1, idx_str hs' hsi, c_eqs]
      by_cases he : r[i] = s[ps.length]
      · have e3 : decide ([r[i]] = [s[ps.length]]) = true := decide_eq_true (by rw [he])
        rw [e3]
        simp only [ev, evs, evo, evT, evto, evF, evQ, evI, ex, wr_bind, wr_ok, wt_o, wt_seq, wt_turn, wt_next, wt_brk, wt_cont, wt_ret, R.bind_ok, R.o_ok, List.getElem?_cons_zero, List.getElem?_cons_succ, List.set_cons_zero, List.set_cons_succ]
        rw [wt_cons]
        have ha := app_last (C := run L.tab.tab L.G k) (G := L.G) (o := .var 2) (e := .var 3) (ρ := [some (.str s), some (.str r), some (.ref S.length), some (.int (i : Int))]) (S := S) (ds := posD ps) (d := .int (i : Int)) (by simp only [ev, List.getElem?_cons_zero, List.getElem?_cons_succ]) (by simp only [ev, List.getElem?_cons_zero, List.getElem?_cons_succ]) (by rw [hpl]; omega)
        show Wt ((ev _ _ _ _ _).o _) _
        rw [ha]
        simp only [R.o_ok, wt_next]
        rw [wt_nil]
        dsimp only
        rw [wt_nil]
        refine ⟨ps ++ [i], some (.int (i : Int)), rfl, ?_, by simp; omega, ?_⟩
        · unfold posD
          rw [List.map_append]
          rfl
        · rw [hg]
          simp only [gr, if_pos he]
          rw [Option.map_map, List.length_append]
          congr 1
          funext z
          simp
      · have e3 : decide ([r[i]] = [s[ps.length]]) = false := decide_eq_false (by simpa using he)
        rw [e3]
        simp only [ev, evs, evo, evT, evto, evF, evQ, evI, ex, wr_bind, wr_ok, wt_o, wt_seq, wt_turn, wt_next, wt_brk, wt_cont, wt_ret, R.bind_ok, R.o_ok, List.getElem?_cons_zero, List.getElem?_cons_succ, List.set_cons_zero, List.set_cons_succ]
        rw [wt_nil]
        dsimp only
        rw [wt_nil]
        refine ⟨ps, some (.int (i : Int)), rfl, rfl, hp, ?_⟩
        rw [hg, hds]
        simp only [gr, if_neg he]
    · have e2 : decide ((ps.length : Int) < (s.length : Int)) = false := decide_eq_false (by omega)
      simp only [e2, ev, evs, evo, evT, evto, evF, evQ, evI, ex, wr_bind, wr_ok, wt_o, wt_seq, wt_turn, wt_next, wt_brk, wt_cont, wt_ret, R.bind_ok, R.o_ok, List.getElem?_cons_zero, List.getElem?_cons_succ, List.set_cons_zero, List.set_cons_succ]
      rw [wt_nil]
      dsimp only
      rw [wt_nil]
      refine ⟨ps, some (.int (i : Int)), rfl, rfl, hp, ?_⟩
      rw [hg]
      have : s.drop ps.length = [] := List.drop_of_length_le (by omega)
      rw [this]
      simp only [gr]
  · obtain ⟨ps, x, rfl, rfl, hp, hg⟩ := hI
    have hlen : ((List.range (r.length : Int).toNat).map fun k => D.int ((k : Nat) : Int)).length = r.length := by simp
    rw [hlen, List.drop_length] at hg
    have hpl : (posD ps).length = ps.length := by simp [posD]
    have e1 : lenV (.ref S.length) (S ++ [Ob.lst (posD ps)]) = .ok (.int ps.length) (S ++ [Ob.lst (posD ps)]) := by rw [len_lst at_last, hpl]
    dsimp only
    rw [wt_cons]
    simp only [ev, evs, evo, evT, evto, evF, evQ, evI, ex, wr_bind, wr_ok, wt_o, wt_seq, wt_turn, wt_next, wt_brk, wt_cont, wt_ret, R.bind_ok, R.o_ok, List.getElem?_cons_zero, List.getElem?_cons_succ, List.set_cons_zero, List.set_cons_succ, e1, len_str hs', c_eqi]
    by_cases he : ps.length = s.length
    · have e2 : decide ((ps.length : Int) = (s.length : Int)) = true := decide_eq_true (by omega)
      rw [e2]
      simp only [ev, evs, evo, evT, evto, evF, evQ, evI, ex, wr_bind, wr_ok, wt_o, wt_seq, wt_turn, wt_next, wt_brk, wt_cont, wt_ret, R.bind_ok, R.o_ok, List.getElem?_cons_zero, List.getElem?_cons_succ, List.set_cons_zero, List.set_cons_succ]
      have hg2 : gr s r 0 = some ps := by
        rw [hg, he, List.drop_length]
        simp [gr]
      exact h _ _ (by rw [hg2]; exact ⟨rfl, rfl⟩)
    · have e2 : decide ((ps.length : Int) = (s.length : Int)) = false := decide_eq_false (by omega)
      rw [e2]
      simp only [ev, evs, evo, evT, evto, evF, evQ, evI, ex, wr_bind, wr_ok, wt_o, wt_seq, wt_turn, wt_next, wt_brk, wt_cont, wt_ret, R.bind_ok, R.o_ok, List.getElem?_cons_zero, List.getElem?_cons_succ, List.set_cons_zero, List.set_cons_succ]
      have hg2 : gr s r 0 = none := by
        rw [hg, List.drop_eq_getElem_cons (by omega)]
        simp only [gr, Option.map_none]
      exact h _ _ (by rw [hg2])
theorem struck_run {k b n : Nat} {xs w : List Nat} {S : Sto} {P : D → Sto → Prop} (hb : Bag S b) (hnb : n ≠ b) (hn : S[n]? = some (.lst (xs.map fun c => D.str [c]))) (hx : xs.length = 3) (hw : w.length ≤ 12)
    (h : ∀ w' S', w'.length ≤ 13 → Bag S' b → S'[n]? = some (.lst (xs.map fun c => D.str [c])) → P (.str w') S') : Wr (run L.tab.tab L.G (k + 3) 9 [.ref b, .ref n, .str w] S) P := by
  rw [wr_run t_struck rfl]
  show Wt (exs _ _ b__law_struck [some (.ref b), some (.ref n), some (.str w), none, none, none] S) _
  unfold b__law_struck
  rw [wt_cons]
  simp only [ev, evs, evo, evT, evto, evF, evQ, evI, ex, wr_bind, wr_ok, wt_o, wt_seq, wt_turn, wt_next, wt_brk, wt_cont, wt_ret, R.bind_ok, R.o_ok, List.getElem?_cons_zero, List.getElem?_cons_succ, List.set_cons_zero, List.set_cons_succ]
  rw [if_pos (by rw [List.length_map]; show _ ≤ 100000; omega)]
  refine lc_inv (fun i acc S' => Bag S' b ∧ S'[n]? = some (.lst (xs.map fun c => D.str [c])) ∧ ∃ ys : List Nat, ys.length ≤ i ∧ acc = ys.map fun c => D.str [c]) ⟨hb, hn, [], Nat.le_refl _, rfl⟩ (fun i d acc S' hd hI => ?_) (fun _ _ _ _ _ _ _ _ n hn => nomatch hn) (fun acc S' hI => ?_)
  · obtain ⟨hb', hn', ys, hl, rfl⟩ := hI
    have hm := List.mem_of_getElem? hd
    simp only [List.mem_map] at hm
    obtain ⟨c, _, rfl⟩ := hm
    simp only [List.map_cons, List.map_nil, wipeD, bindTg, ev, evs, evo, evT, evto, evF, evQ, evI, ex, wr_bind, wr_ok, wt_o, wt_seq, wt_turn, wt_next, wt_brk, wt_cont, wt_ret, R.bind_ok, R.o_ok, List.getElem?_cons_zero, List.getElem?_cons_succ, List.set_cons_zero, List.set_cons_succ]
    refine pull_run t_pull hb' (by decide) (by decide) fun q S1 q0 q1 hb1 f1 => ?_
    have hn1 := f1.at_ hn' hnb
    simp only [ev, evs, evo, evT, evto, evF, evQ, evI, ex, wr_bind, wr_ok, wt_o, wt_seq, wt_turn, wt_next, wt_brk, wt_cont, wt_ret, R.bind_ok, R.o_ok, List.getElem?_cons_zero, List.getElem?_cons_succ, List.set_cons_zero, List.set_cons_succ, c_gt]
    by_cases h0 : 0 < q
    · rw [decide_eq_true h0]
      simp only [ev, evs, evo, evT, evto, evF, evQ, evI, ex, wr_bind, wr_ok, wt_o, wt_seq, wt_turn, wt_next, wt_brk, wt_cont, wt_ret, R.bind_ok, R.o_ok, List.getElem?_cons_zero, List.getElem?_cons_succ, List.set_cons_zero, List.set_cons_succ]
      exact ⟨hb1, hn1, ys ++ [c], by simp; omega, by simp⟩
    · rw [decide_eq_false h0]
      simp only [ev, evs, evo, evT, evto, evF, evQ, evI, ex, wr_bind, wr_ok, wt_o, wt_seq, wt_turn, wt_next, wt_brk, wt_cont, wt_ret, R.bind_ok, R.o_ok, List.getElem?_cons_zero, List.getElem?_cons_succ, List.set_cons_zero, List.set_cons_succ]
      exact ⟨hb1, hn1, ys, by omega, rfl⟩
  · obtain ⟨hb', hn', ys, hl, rfl⟩ := hI
    rw [List.length_map] at hl
    have hbl := hb'.lt
    have hnl := (List.getElem?_eq_some_iff.mp hn').1
    have hb1 : Bag (S' ++ [Ob.lst (ys.map fun c => D.str [c])]) b := hb'.new
    have hn1 : (S' ++ [Ob.lst (ys.map fun c => D.str [c])])[n]? = some (.lst (xs.map fun c => D.str [c])) := Kp.new _ _ hn'
    have hm1 : (S' ++ [Ob.lst (ys.map fun c => D.str [c])])[S'.length]? = some (.lst (ys.map fun c => D.str [c])) := at_last
    generalize S'.length = m at hbl hnl hm1
    generalize S' ++ [Ob.lst (ys.map fun c => D.str [c])] = S1 at hb1 hn1 hm1
    have fin : ∀ (S2 : Sto) (m2 : Nat) (zs : List Nat) (x4 : D), zs.length ≤ 13 → Bag S2 b → S2[n]? = some (.lst (xs.map fun c => D.str [c])) → S2[m2]? = some (.lst (zs.map fun c => D.str [c])) → Wt (exs (run L.tab.tab L.G (k + 2)) L.G [.ret (.join (.cst (.str [])) (.ex (.var 3)))] [some (.ref b), some (.ref n), some (.str w), some (.ref m2), some x4, none] S2) ⟨fun _ S => P .non S, no2, no2, P⟩ := fun S2 m2 zs x4 hz hb2 hn2 hm2 => by
      rw [wt_cons]
      simp only [ev, evs, evo, evT, evto, evF, evQ, evI, ex, wr_bind, wr_ok, wt_o, wt_seq, wt_turn, wt_next, wt_brk, wt_cont, wt_ret, R.bind_ok, R.o_ok, List.getElem?_cons_zero, List.getElem?_cons_succ, List.set_cons_zero, List.set_cons_succ, seqV, hm2, strs_of]
      rw [sum_one, List.length_map, join_one]
      rw [if_pos (by simp only [List.length_nil, Nat.mul_zero, Nat.add_zero]; show zs.length ≤ 100000; omega)]
      exact h zs S2 hz hb2 hn2
    have mid : ∀ (S2 : Sto) (zs : List Nat) (q : Int), zs.length ≤ 13 → Bag S2 b → S2[n]? = some (.lst (xs.map fun c => D.str [c])) → S2[m]? = some (.lst (zs.map fun c => D.str [c])) → Wt (exs (run L.tab.tab L.G (k + 2)) L.G [.if_ (.cmp .eq (.var 4) (.cst (.int 1))) [.asg 3 (.rev (.var 3))] [], .ret (.join (.cst (.str [])) (.ex (.var 3)))] [some (.ref b), some (.ref n), some (.str w), some (.ref m), some (.int q), none] S2) ⟨fun _ S => P .non S, no2, no2, P⟩ := fun S2 zs q hz hb2 hn2 hm2 => by
      rw [wt_cons]
      simp only [ev, evs, evo, evT, evto, evF, evQ, evI, ex, wr_bind, wr_ok, wt_o, wt_seq, wt_turn, wt_next, wt_brk, wt_cont, wt_ret, R.bind_ok, R.o_ok, List.getElem?_cons_zero, List.getElem?_cons_succ, List.set_cons_zero, List.set_cons_succ, c_eqi]
      by_cases h1 : q = 1
      · rw [decide_eq_true h1]
        simp only [ev, evs, evo, evT, evto, evF, evQ, evI, ex, wr_bind, wr_ok, wt_o, wt_seq, wt_turn, wt_next, wt_brk, wt_cont, wt_ret, R.bind_ok, R.o_ok, List.getElem?_cons_zero, List.getElem?_cons_succ, List.set_cons_zero, List.set_cons_succ]
        rw [wt_cons]
        simp only [ev, evs, evo, evT, evto, evF, evQ, evI, ex, wr_bind, wr_ok, wt_o, wt_seq, wt_turn, wt_next, wt_brk, wt_cont, wt_ret, R.bind_ok, R.o_ok, List.getElem?_cons_zero, List.getElem?_cons_succ, List.set_cons_zero, List.set_cons_succ, revV, hm2]
        rw [wt_nil]
        refine fin _ S2.length zs.reverse _ (by simpa using hz) hb2.new (Kp.new _ _ hn2) ?_
        rw [at_last, List.map_reverse]
      · rw [decide_eq_false h1]
        simp only [ev, evs, evo, evT, evto, evF, evQ, evI, ex, wr_bind, wr_ok, wt_o, wt_seq, wt_turn, wt_next, wt_brk, wt_cont, wt_ret, R.bind_ok, R.o_ok, List.getElem?_cons_zero, List.getElem?_cons_succ, List.set_cons_zero, List.set_cons_succ]
        rw [wt_nil]
        exact fin _ m zs _ hz hb2 hn2 hm2
    rw [wt_cons]
    simp only [ev, evs, evo, evT, evto, evF, evQ, evI, ex, wr_bind, wr_ok, wt_o, wt_seq, wt_turn, wt_next, wt_brk, wt_cont, wt_ret, R.bind_ok, R.o_ok, List.getElem?_cons_zero, List.getElem?_cons_succ, List.set_cons_zero, List.set_cons_succ]
    refine pull_run t_pull hb1 (by decide) (by decide) fun q S2 q0 q1 hb2 f2 => ?_
    have hn2 := f2.at_ hn1 hnb
    have hm2 := f2.at_ hm1 (by omega)
    rw [wt_cons]
    simp only [ev, evs, evo, evT, evto, evF, evQ, evI, ex, wr_bind, wr_ok, wt_o, wt_seq, wt_turn, wt_next, wt_brk, wt_cont, wt_ret, R.bind_ok, R.o_ok, List.getElem?_cons_zero, List.getElem?_cons_succ, List.set_cons_zero, List.set_cons_succ, c_eqi]
    by_cases h0 : q = 0
    · rw [decide_eq_true h0]
      simp only [ev, evs, evo, evT, evto, evF, evQ, evI, ex, wr_bind, wr_ok, wt_o, wt_seq, wt_turn, wt_next, wt_brk, wt_cont, wt_ret, R.bind_ok, R.o_ok, List.getElem?_cons_zero, List.getElem?_cons_succ, List.set_cons_zero, List.set_cons_succ]
      rw [wt_cons]
      simp only [ev, evs, evo, evT, evto, evF, evQ, evI, ex, wr_bind, wr_ok, wt_o, wt_seq, wt_turn, wt_next, wt_brk, wt_cont, wt_ret, R.bind_ok, R.o_ok, List.getElem?_cons_zero, List.getElem?_cons_succ, List.set_cons_zero, List.set_cons_succ, hm2, len_lst hm2, v_add, List.length_map]
      refine pull_run t_pull hb2 (by omega) (by omega) fun q2 S3 p0 p1 hb3 f3 => ?_
      have hn3 := f3.at_ hn2 hnb
      have hm3 := f3.at_ hm2 (by omega)
      try simp only [ev, evs, evo, evT, evto, evF, evQ, evI, ex, wr_bind, wr_ok, wt_o, wt_seq, wt_turn, wt_next, wt_brk, wt_cont, wt_ret, R.bind_ok, R.o_ok, List.getElem?_cons_zero, List.getElem?_cons_succ, List.set_cons_zero, List.set_cons_succ]
      refine of_lst t_of t_pull hb3 hnb hn3 (by simp [hx]) (by rw [List.length_map, hx]; decide) fun q3 d S4 hq3 hb4 f4 => ?_
      have hn4 := f4.at_ hn3 hnb
      have hm4 := f4.at_ hm3 (by omega)
      have hmm := List.mem_of_getElem? hq3
      simp only [List.mem_map] at hmm
      obtain ⟨c, _, rfl⟩ := hmm
      simp only [ev, evs, evo, evT, evto, evF, evQ, evI, ex, wr_bind, wr_ok, wt_o, wt_seq, wt_turn, wt_next, wt_brk, wt_cont, wt_ret, R.bind_ok, R.o_ok, List.getElem?_cons_zero, List.getElem?_cons_succ, List.set_cons_zero, List.set_cons_succ, lmV, hm4]
      rw [if_pos ⟨by rw [List.length_map]; show _ < 100000; omega, p0, by omega⟩]
      simp only [ev, evs, evo, evT, evto, evF, evQ, evI, ex, wr_bind, wr_ok, wt_o, wt_seq, wt_turn, wt_next, wt_brk, wt_cont, wt_ret, R.bind_ok, R.o_ok, List.getElem?_cons_zero, List.getElem?_cons_succ, List.set_cons_zero, List.set_cons_succ]
      rw [wt_nil]
      refine mid _ (ys.take q2.toNat ++ [c] ++ ys.drop q2.toNat) _ (by simp; omega) (hb4.set (by omega)) (by rw [List.getElem?_set_ne (by omega)]; exact hn4) ?_
      rw [List.getElem?_set_self (List.getElem?_eq_some_iff.mp hm4).1]
      simp [List.map_take, List.map_drop]
    · rw [decide_eq_false h0]
      simp only [ev, evs, evo, evT, evto, evF, evQ, evI, ex, wr_bind, wr_ok, wt_o, wt_seq, wt_turn, wt_next, wt_brk, wt_cont, wt_ret, R.bind_ok, R.o_ok, List.getElem?_cons_zero, List.getElem?_cons_succ, List.set_cons_zero, List.set_cons_succ]
      rw [wt_nil]
      exact mid _ ys _ (by omega) hb2 hn2 hm2
/-- what stands between the turns -/
def Inv (ρ : Slo) (S : Sto) : Prop := ∃ (s : D) (b n : Nat) (xs : List Nat) (x3 x4 x5 x6 : Option D), ρ = [some s, some (.ref b), some (.ref n), x3, x4, x5, x6] ∧ Bag S b ∧ n ≠ b ∧ xs.length = 3 ∧ S[n]? = some (.lst (xs.map fun c => D.str [c]))
theorem posD_like {S : Sto} {n m : Nat} {ps : List Nat} (hn : S[n]? = some (.lst (posD ps))) (hm : S[m]? = some (.lst (posD ps))) (hl : ps.length ≤ lim) : like S 2 (.ref n) (.ref m) :=
  like_scal hn hm (by simpa [posD] using hl) fun d hd => by
    unfold posD at hd
    obtain ⟨p, _, rfl⟩ := List.mem_map.mp hd
    rfl
theorem lw : L.Law 30 lawF := by
  intro ns hns
  suffices h : Wr (run L.tab.tab L.G 30 lawF [.fro (ns.map D.int)] []) fun d _ => d = .bl true by
    obtain ⟨d, S, e, rfl⟩ := h.ok
    exact ⟨S, e⟩
  rw [wr_run (fn := ⟨1, 7, b_law⟩) rfl rfl]
  show Wt (exs _ _ b_law [some (.fro (ns.map D.int)), none, none, none, none, none, none] []) _
  unfold b_law
  rw [wt_cons]
  simp only [ev, evs, evo, evT, evto, evF, evQ, evI, ex, wr_bind, wr_ok, wt_o, wt_seq, wt_turn, wt_next, wt_brk, wt_cont, wt_ret, R.bind_ok, R.o_ok, List.getElem?_cons_zero, List.getElem?_cons_succ, List.set_cons_zero, List.set_cons_succ]
  refine bag_run t_bag fun b S hb => ?_
  rw [wt_cons]
  simp only [ev, evs, evo, evT, evto, evF, evQ, evI, ex, wr_bind, wr_ok, wt_o, wt_seq, wt_turn, wt_next, wt_brk, wt_cont, wt_ret, R.bind_ok, R.o_ok, List.getElem?_cons_zero, List.getElem?_cons_succ, List.set_cons_zero, List.set_cons_succ]
  refine letters_run t_letters t_of t_pull hb fun n xs S1 hx lx hn nb hb1 fr => ?_
  have hlt := hb.lt
  rw [wt_cons]
  simp only [ev, evs, evo, evT, evto, evF, evQ, evI, ex, wr_bind, wr_ok, wt_o, wt_seq, wt_turn, wt_next, wt_brk, wt_cont, wt_ret, R.bind_ok, R.o_ok, List.getElem?_cons_zero, List.getElem?_cons_succ, List.set_cons_zero, List.set_cons_succ]
  rw [if_pos (by decide)]
  simp only [ev, evs, evo, evT, evto, evF, evQ, evI, ex, wr_bind, wr_ok, wt_o, wt_seq, wt_turn, wt_next, wt_brk, wt_cont, wt_ret, R.bind_ok, R.o_ok, List.getElem?_cons_zero, List.getElem?_cons_succ, List.set_cons_zero, List.set_cons_succ]
  refine for_inv (fun _ => Inv) ⟨_, b, n, xs, none, none, none, none, rfl, hb1, by omega, hx, hn⟩ (fun i d ρ S hd hI => ?_) (fun _ _ _ _ _ _ _ _ n hn => nomatch hn) (fun ρ S hI => ?_)
  · obtain ⟨s, b, n, xs, x3, x4, x5, x6, rfl, hb, hnb, hx, hn⟩ := hI
    refine ⟨[some s, some (.ref b), some (.ref n), some d, x4, x5, x6], rfl, ?_⟩
    rw [wt_cons]
    simp only [ev, evs, evo, evT, evto, evF, evQ, evI, ex, wr_bind, wr_ok, wt_o, wt_seq, wt_turn, wt_next, wt_brk, wt_cont, wt_ret, R.bind_ok, R.o_ok, List.getElem?_cons_zero, List.getElem?_cons_succ, List.set_cons_zero, List.set_cons_succ]
    refine pull_run t_pull hb (by decide) (by decide) fun r S1 r0 r1 hb1 f1 => ?_
    have hn1 := f1.at_ hn hnb
    obtain ⟨q, rfl⟩ := Int.eq_ofNat_of_zero_le r0
    have hb1' := hb1.lt
    have e1 : (1 : Int) + (q : Int) = ((1 + q : Nat) : Int) := by omega
    simp only [v_add, ev, evs, evo, evT, evto, evF, evQ, evI, ex, wr_bind, wr_ok, wt_o, wt_seq, wt_turn, wt_next, wt_brk, wt_cont, wt_ret, R.bind_ok, R.o_ok, List.getElem?_cons_zero, List.getElem?_cons_succ, List.set_cons_zero, List.set_cons_succ, sliV, hn1, e1, cut_to]
    refine word_run (ls := xs.take (1 + q)) (top := 12) t_word t_of t_pull hb1.new (by omega) (by simp [List.map_take]) (by simp [hx]; omega) (by simp [hx]; show _ ≤ 100000; omega) (by decide) (by decide) fun w S2 hw _ hb2 f2 => ?_
    have hw12 : w.length ≤ 12 := by have : (12 : Int).toNat = 12 := rfl; omega
    have hw' : w.length < lim := by show _ < 100000; omega
    have hn2 : S2[n]? = some (.lst (xs.map fun c => D.str [c])) := (Frm.trans Frm.new f2).at_ hn1 hnb
    rw [wt_cons]
    simp only [ev, evs, evo, evT, evto, evF, evQ, evI, ex, wr_bind, wr_ok, wt_o, wt_seq, wt_turn, wt_next, wt_brk, wt_cont, wt_ret, R.bind_ok, R.o_ok, List.getElem?_cons_zero, List.getElem?_cons_succ, List.set_cons_zero, List.set_cons_succ]
    refine struck_run hb2 hnb hn2 hx hw12 fun v S3 hv hb3 hn3 => ?_
    have hv' : v.length < lim := by show _ < 100000; omega
    rw [wt_cons]
    simp only [ev, evs, evo, evT, evto, evF, evQ, evI, ex, wr_bind, wr_ok, wt_o, wt_seq, wt_turn, wt_next, wt_brk, wt_cont, wt_ret, R.bind_ok, R.o_ok, List.getElem?_cons_zero, List.getElem?_cons_succ, List.set_cons_zero, List.set_cons_succ]
    refine first_run hv' (Nat.le_of_lt hw') fun due fd hdue => ?_
    rw [wt_cons]
    simp only [ev, evs, evo, evT, evto, evF, evQ, evI, ex, wr_bind, wr_ok, wt_o, wt_seq, wt_turn, wt_next, wt_brk, wt_cont, wt_ret, R.bind_ok, R.o_ok, List.getElem?_cons_zero, List.getElem?_cons_succ, List.set_cons_zero, List.set_cons_succ]
    refine within_run t_within t_spots hv' fun f1 => ?_
    try simp only [ev, evs, evo, evT, evto, evF, evQ, evI, ex, wr_bind, wr_ok, wt_o, wt_seq, wt_turn, wt_next, wt_brk, wt_cont, wt_ret, R.bind_ok, R.o_ok, List.getElem?_cons_zero, List.getElem?_cons_succ, List.set_cons_zero, List.set_cons_succ]
    refine spots_run t_spots hv' fun d4 f4 h4 => ?_
    try simp only [ev, evs, evo, evT, evto, evF, evQ, evI, ex, wr_bind, wr_ok, wt_o, wt_seq, wt_turn, wt_next, wt_brk, wt_cont, wt_ret, R.bind_ok, R.o_ok, List.getElem?_cons_zero, List.getElem?_cons_succ, List.set_cons_zero, List.set_cons_succ]
    rw [if_pos (by show 2 ≤ 100000; decide)]
    simp only [ev, evs, evo, evT, evto, evF, evQ, evI, ex, wr_bind, wr_ok, wt_o, wt_seq, wt_turn, wt_next, wt_brk, wt_cont, wt_ret, R.bind_ok, R.o_ok, List.getElem?_cons_zero, List.getElem?_cons_succ, List.set_cons_zero, List.set_cons_succ, c_notN]
    rw [if_pos (by show 2 ≤ 100000; decide)]
    simp only [ev, evs, evo, evT, evto, evF, evQ, evI, ex, wr_bind, wr_ok, wt_o, wt_seq, wt_turn, wt_next, wt_brk, wt_cont, wt_ret, R.bind_ok, R.o_ok, List.getElem?_cons_zero, List.getElem?_cons_succ, List.set_cons_zero, List.set_cons_succ]
    generalize hSa : S3 ++ [Ob.lst fd] = Sa
    have ka : Sa[S3.length]? = some (.lst fd) := by rw [← hSa]; exact at_last
    have k0 : Kp S3 Sa := by rw [← hSa]; exact Kp.new
    have ba : Bag Sa b := by rw [← hSa]; exact hb3.new
    rw [hSa] at h4
    generalize hSb : Sa ++ [Ob.lst f1] = Sb
    have k1 : Kp Sa Sb := by rw [← hSb]; exact Kp.new
    have bb : Bag Sb b := by rw [← hSb]; exact ba.new
    rw [hSb] at h4
    generalize hSc : Sb ++ [Ob.lst f4] = Sc
    have kc : Sc[Sb.length]? = some (.lst f4) := by rw [← hSc]; exact at_last
    have k2 : Kp Sb Sc := by rw [← hSc]; exact Kp.new
    have bc : Bag Sc b := by rw [← hSc]; exact bb.new
    generalize hSd : Sc ++ [Ob.lst [.bl (gr v w 0).isSome, d4]] = Sd
    have kd : Sd[Sc.length]? = some (.lst [.bl (gr v w 0).isSome, d4]) := by rw [← hSd]; exact at_last
    have k3 : Kp Sc Sd := by rw [← hSd]; exact Kp.new
    have bd : Bag Sd b := by rw [← hSd]; exact bc.new
    generalize hSe : Sd ++ [Ob.lst [.bl (!isNn due), due]] = Se
    have ke : Se[Sd.length]? = some (.lst [.bl (!isNn due), due]) := by rw [← hSe]; exact at_last
    have k4 : Kp Sd Se := by rw [← hSe]; exact Kp.new
    have be : Bag Se b := by rw [← hSe]; exact bd.new
    have nn : (!isNn due) = (gr v w 0).isSome := by
      cases q : gr v w 0 with
      | none => rw [q] at hdue; rw [hdue]; rfl
      | some ps => rw [q] at hdue; rw [hdue.1]; rfl
    have ld : like Se 2 d4 due := by
      cases q : gr v w 0 with
      | none =>
        rw [q] at hdue h4
        subst hdue h4
        trivial
      | some ps =>
        rw [q] at hdue h4
        obtain ⟨rfl, rfl⟩ := hdue
        obtain ⟨rfl, rfl⟩ := h4
        have := (gr_len _ _ _ _ q).2
        exact posD_like ((k3.trans k4) _ _ kc) ((((k1.trans k2).trans k3).trans k4) _ _ ka) (by omega)
    have hl : like Se 3 (.ref Sc.length) (.ref Sd.length) := by
      refine ⟨_, _, k4 _ _ kd, ke, rfl, by show 2 ≤ 100000; decide, fun i x y q1 q2 => ?_⟩
      match i with
      | 0 => cases q1; cases q2; exact nn.symm
      | 1 => cases q1; cases q2; exact ld
      | i + 2 => cases q1
    have hs : run L.tab.tab L.G 29 5 [.ref Sc.length, .ref Sd.length] Se = .ok (.bl true) Se := same_go t_same (G := L.G) 3 _ _ _ hl 26
    simp only [hs, ev, evs, evo, evT, evto, evF, evQ, evI, ex, wr_bind, wr_ok, wt_o, wt_seq, wt_turn, wt_next, wt_brk, wt_cont, wt_ret, R.bind_ok, R.o_ok, List.getElem?_cons_zero, List.getElem?_cons_succ, List.set_cons_zero, List.set_cons_succ, truV, Bool.not_true]
    rw [wt_nil]
    dsimp only
    rw [wt_cons]
    have hne : Se[n]? = some (.lst (xs.map fun c => D.str [c])) := ((((k0.trans k1).trans k2).trans k3).trans k4) _ _ hn3
    simp only [ev, evs, evo, evT, evto, evF, evQ, evI, ex, wr_bind, wr_ok, wt_o, wt_seq, wt_turn, wt_next, wt_brk, wt_cont, wt_ret, R.bind_ok, R.o_ok, List.getElem?_cons_zero, List.getElem?_cons_succ, List.set_cons_zero, List.set_cons_succ]
    refine within_run t_within t_spots (by decide) fun g1 => ?_
    have z1 : (gr [] w 0).isSome = true := by cases w <;> rfl
    rw [z1]
    simp only [ev, evs, evo, evT, evto, evF, evQ, evI, ex, wr_bind, wr_ok, wt_o, wt_seq, wt_turn, wt_next, wt_brk, wt_cont, wt_ret, R.bind_ok, R.o_ok, List.getElem?_cons_zero, List.getElem?_cons_succ, List.set_cons_zero, List.set_cons_succ, truV, Bool.not_true]
    refine within_run t_within t_spots hw' fun g2 => ?_
    rw [gr_self]
    simp only [ev, evs, evo, evT, evto, evF, evQ, evI, ex, wr_bind, wr_ok, wt_o, wt_seq, wt_turn, wt_next, wt_brk, wt_cont, wt_ret, R.bind_ok, R.o_ok, List.getElem?_cons_zero, List.getElem?_cons_succ, List.set_cons_zero, List.set_cons_succ, truV, Bool.not_true]
    have hn5 : ((Se ++ [Ob.lst g1]) ++ [Ob.lst g2])[n]? = some (.lst (xs.map fun c => D.str [c])) := (Kp.new.trans Kp.new) _ _ hne
    match xs, hx with
    | [a1, a2, a3], _ =>
      have hi : idxV (.ref n) (.int 0) ((Se ++ [Ob.lst g1]) ++ [Ob.lst g2]) = .ok (.str [a1]) ((Se ++ [Ob.lst g1]) ++ [Ob.lst g2]) := idxV_lst hn5 rfl
      simp only [ev, evs, evo, evT, evto, evF, evQ, evI, ex, wr_bind, wr_ok, wt_o, wt_seq, wt_turn, wt_next, wt_brk, wt_cont, wt_ret, R.bind_ok, R.o_ok, List.getElem?_cons_zero, List.getElem?_cons_succ, List.set_cons_zero, List.set_cons_succ, hi, binV]
      rw [if_pos (by show _ ≤ 100000; simp; omega)]
      simp only [ev, evs, evo, evT, evto, evF, evQ, evI, ex, wr_bind, wr_ok, wt_o, wt_seq, wt_turn, wt_next, wt_brk, wt_cont, wt_ret, R.bind_ok, R.o_ok, List.getElem?_cons_zero, List.getElem?_cons_succ, List.set_cons_zero, List.set_cons_succ]
      refine within_run t_within t_spots (by show _ < 100000; simp; omega) fun g3 => ?_
      have z3 : (gr (w ++ [a1]) w 0).isSome = false := by
        cases q : gr (w ++ [a1]) w 0 with
        | none => rfl
        | some ps =>
          have := (gr_len _ _ _ _ q).1
          simp at this
          omega
      rw [z3]
      simp only [ev, evs, evo, evT, evto, evF, evQ, evI, ex, wr_bind, wr_ok, wt_o, wt_seq, wt_turn, wt_next, wt_brk, wt_cont, wt_ret, R.bind_ok, R.o_ok, List.getElem?_cons_zero, List.getElem?_cons_succ, List.set_cons_zero, List.set_cons_succ, truV]
      rw [wt_nil]
      dsimp only
      rw [wt_nil]
      exact ⟨s, b, n, [a1, a2, a3], _, _, _, _, rfl, be.new.new.new, hnb, rfl, Kp.new _ _ hn5⟩
  · obtain ⟨s, b, n, xs, x3, x4, x5, x6, rfl, hb, hnb, hx, hn⟩ := hI
    dsimp only
    rw [wt_cons]
    simp only [ev, evs, evo, evT, evto, evF, evQ, evI, ex, wr_bind, wr_ok, wt_o, wt_seq, wt_turn, wt_next, wt_brk, wt_cont, wt_ret, R.bind_ok, R.o_ok, List.getElem?_cons_zero, List.getElem?_cons_succ, List.set_cons_zero, List.set_cons_succ]
end Lk02
open PySem PySem.W PySem.Calls PyProof.Rows
theorem PySem.Challenge.cw_leakpost_k02_words_within_words_holds : PySem.Challenge.rw_leakpost_k02_words_within_words.Holds := by
  w_on; o_law
  refine HandSHeadRun.head_any (r := OpenLaw.row PySem.Challenge.rw_leakpost_k02_words_within_words) (q := view (OpenLaw.row PySem.Challenge.rw_leakpost_k02_words_within_words).prog [Lk02.lawAt]) (H := Lk02.hk) (ob := Lk02.ob) (M := 3000) (loose := Lk02.loose) (d := HandSHeadRun.topDef (OpenLaw.row PySem.Challenge.rw_leakpost_k02_words_within_words).prog Lk02.lawAt) (kwd := []) Lk02.ob_eq
    (by kernel_rfl) (fun s => by kernel_rfl) Lk02.head (by kernel_rfl) (by kernel_rfl) (by kernel_rfl) (by rfl) (by first | assumption | decide +kernel) (by decide +kernel) ⟨rfl, rfl, rfl, rfl, rfl, by decide +kernel⟩ ?hw ?hc
  case hw => w_witness2
  case hc =>
    refine L2.walk_ofE (l := PySem.Challenge.rw_leakpost_k02_words_within_words) (n := 63) (k := 30) (x := "_law_script") (CX := L2.CX0) rfl (by decide) (by kernel_rfl) ⟨rfl, by decide, by decide⟩ ?F (fun _ _ _ _ z => z)
    intro w mg fa h Y G hmg0
    obtain ⟨K, KX, c⟩ := Y
    have hmg : mg (Lk02.L.nms Lk02.lawF) = some (.ref fa) := by
      have e : (HandSHeadRun.topDef (OpenLaw.row PySem.Challenge.rw_leakpost_k02_words_within_words).prog Lk02.lawAt).name = Lk02.L.nms Lk02.lawF := by kernel_rfl
      rw [← e]
      exact hmg0
    obtain ⟨fd, sp, h1, h2, h3⟩ := Pl.law_fn (P := (PySem.Challenge.rw_leakpost_k02_words_within_words).prog) (w := w) (L := Lk02.L) (f := Lk02.lawF) (x := "_law_script") Lk02.ok KX G c rfl rfl 30 Lk02.lw hmg
    exact ⟨K, fd, sp, KX, h1, h2, h3⟩
