import PyProof.Rows.All
import Wide.All
import OpenK.AllK
import Wide.FinOn
import HandS.TupMul
import HandS.StrMore
import PyProof.StrOps2
import HandS.TupAny
import HandS.Style
import HandS.ForMost
import HandS.Exc
import HandS.IsInst
import HandS.Deep
import HandS.Wide
import HandS.Zip
import HandS.Walk
import HandS.Text
import HandS.WordsExc
import HandS.Defaults
import HandS.More
import HandS.Dict
import HandS.WordsDict
import HandS.Conv
import HandS.Flow
import KE.KRevSl
import HandS.Set
import HandS.SetTxt0
import HandS.Strs
import HandS.Words
import HandS.HeadHook1
import HandS.HeadHook2
import KE.KStateDown
import HandS.Ends
import HandS.HeadEnd
import HandS.Head0
import HandS.Head1
import HandS.Head2
import PySem.Challenge.RW_leakpost_k33_products_sent_taken_swollen
set_option Elab.async false
set_option linter.all false
set_option maxRecDepth 100000
set_option maxHeartbeats 4000000
/-! tuple * 0, tuple * 1, text * int. -/
namespace Pl
open PySem PySem.Spec PyProof.Rows L2
theorem tuple_mul1 (l : Addr) (items : Array Value) (n : Nat) (dd : Option Addr) (sl : Array (Option Value)) (u : Tok) :
    Meets (Builtin.«tuple.__mul__» ⟨[.ref l, .int 1 u], []⟩) (fun _ R s => s.heap.get? l = some { cls := .type "tuple", dict := dd, data := .seq items n, slots := sl } ∧ R (.ok (.ret (Value.ref l))) s) :=
  .of_wp fun prog w A R s h => by
    obtain ⟨hp, g, d, tk, os⟩ := s
    obtain ⟨hl, h⟩ := h
    have f1 := AutoSeq1.idx_int
    have c1 : (items.isEmpty || (1 : Int) == 1) = true := by simp
    wp_walk using wpAny_loadPart' hl
    repeat (first
      | (refine wpAny_ite_false (decide_eq_false (by decide)) ?_; wp_walk using wpAny_loadPart' hl)
      | (refine wpAny_ite_true (decide_eq_true c1) ?_; wp_walk using wpAny_loadPart' hl))
    exact ⟨_, rfl, h⟩
theorem tuple_mulE (l : Addr) (items : Array Value) (n : Nat) (dd : Option Addr) (sl : Array (Option Value)) (u : Tok) (c0 : items.isEmpty = true) :
    Meets (Builtin.«tuple.__mul__» ⟨[.ref l, .int 0 u], []⟩) (fun _ R s => s.heap.get? l = some { cls := .type "tuple", dict := dd, data := .seq items n, slots := sl } ∧ R (.ok (.ret (Value.ref l))) s) :=
  .of_wp fun prog w A R s h => by
    obtain ⟨hp, g, d, tk, os⟩ := s
    obtain ⟨hl, h⟩ := h
    have f1 := AutoSeq1.idx_int
    have c1 : (items.isEmpty || (0 : Int) == 1) = true := by rw [c0]; rfl
    wp_walk using wpAny_loadPart' hl
    repeat (first
      | (refine wpAny_ite_false (decide_eq_false (by decide)) ?_; wp_walk using wpAny_loadPart' hl)
      | (refine wpAny_ite_true (decide_eq_true c1) ?_; wp_walk using wpAny_loadPart' hl))
    exact ⟨_, rfl, h⟩
theorem tuple_mul0 (l : Addr) (items : Array Value) (n : Nat) (dd : Option Addr) (sl : Array (Option Value)) (u : Tok) (c1 : items.isEmpty = false) :
    Meets (Builtin.«tuple.__mul__» ⟨[.ref l, .int 0 u], []⟩) (fun _ R s => s.heap.get? l = some { cls := .type "tuple", dict := dd, data := .seq items n, slots := sl } ∧
      R (.ok (.ret (Value.ref s.heap.objs.size))) { s with heap := s.heap.push { cls := Value.type "tuple", data := Data.seq #[] }, toks := s.toks }) :=
  .of_wp fun prog w A R s h => by
    obtain ⟨hp, g, d, tk, os⟩ := s
    obtain ⟨hl, h⟩ := h
    have f1 := AutoSeq1.idx_int
    have c2 : (items.isEmpty || (0 : Int) == 1) = false := by rw [c1]; rfl
    have c3 : (decide ((0 : Int) ≤ 0) || items.isEmpty) = true := by simp
    wp_walk using wpAny_loadPart' hl
    repeat (first
      | (refine wpAny_ite_false (decide_eq_false (by decide)) ?_; wp_walk using wpAny_loadPart' hl)
      | (refine wpAny_ite_false (decide_eq_false (by rw [c2]; exact Bool.false_ne_true)) ?_; wp_walk using wpAny_loadPart' hl)
      | (refine wpAny_ite_true (decide_eq_true c3) ?_; wp_walk using wpAny_loadPart' hl))
    exact ⟨_, rfl, h⟩
section
variable {X : Cx}
def rRep1 (K : PySem.W.Frag) : R2 := fun x y H Q => ∃ l k xs, x = .ref l ∧ y = .int k ∧ SqT K H l xs ∧ ((k = 1 ∧ Q (.ref l) H) ∨ (k = 0 ∧ (xs = [] → Q (.ref l) H) ∧ (∀ p, H p = none → Q (.ref p) (upd H p (.tup [])))))
theorem op_rep1 : OpR X (binaryOp .Mult) (rRep1 X.K) := by
  intro pins s σ H x y v u Q I rx ry h
  obtain ⟨l, k, xs, rfl, rfl, hT, q⟩ := h
  cases rx
  obtain ⟨t, rfl⟩ := ry
  obtain ⟨its, r, ⟨⟨cls, dd, data, sl⟩, ho, hc, n, hd⟩, hs⟩ := I.tuple hT
  simp only at hc hd
  subst hc hd
  rcases q with ⟨rfl, q⟩ | ⟨rfl, q1, q2⟩
  · refine wpAny_binaryOp_repeat_ref (T := "tuple") (U := "int") (by decide) ⟨_, ho, rfl⟩ (fun s' => typeIs_int s' 1 t) noFill_tuple_mul F.fills_int_mul F.slot_int_rmul repeat_tuple F.slot_int_index.lookup
      (call_meets F.slot_int_rmul (typeIs_int s 1 t) F.entry_int_rmul (F.args_int_rmul_2 _ _) (int_rmul_tuple 1 t l its.toArray n dd sl)
        ⟨ho, rfl, ⟨_, ho, rfl⟩, call_meets F.slot_tuple_mul ⟨_, ho, rfl⟩ F.entry_tuple_mul (F.args_tuple_mul_2 _ _) (tuple_mul1 l its.toArray n dd sl t) ⟨ho, ?_⟩⟩)
    exact ⟨.ref l, H, I, rfl, q⟩
  · cases hx : its.toArray.isEmpty with
    | true =>
      have hx0 : xs = [] := by
        have := r.length
        have h2 : its.length = 0 := by simpa [List.isEmpty_iff] using hx
        exact List.eq_nil_of_length_eq_zero (by omega)
      refine wpAny_binaryOp_repeat_ref (T := "tuple") (U := "int") (by decide) ⟨_, ho, rfl⟩ (fun s' => typeIs_int s' 0 t) noFill_tuple_mul F.fills_int_mul F.slot_int_rmul repeat_tuple F.slot_int_index.lookup
        (call_meets F.slot_int_rmul (typeIs_int s 0 t) F.entry_int_rmul (F.args_int_rmul_2 _ _) (int_rmul_tuple 0 t l its.toArray n dd sl)
          ⟨ho, rfl, ⟨_, ho, rfl⟩, call_meets F.slot_tuple_mul ⟨_, ho, rfl⟩ F.entry_tuple_mul (F.args_tuple_mul_2 _ _) (tuple_mulE l its.toArray n dd sl t hx) ⟨ho, ?_⟩⟩)
      exact ⟨.ref l, H, I, rfl, q1 hx0⟩
    | false =>
      refine wpAny_binaryOp_repeat_ref (T := "tuple") (U := "int") (by decide) ⟨_, ho, rfl⟩ (fun s' => typeIs_int s' 0 t) noFill_tuple_mul F.fills_int_mul F.slot_int_rmul repeat_tuple F.slot_int_index.lookup
        (call_meets F.slot_int_rmul (typeIs_int s 0 t) F.entry_int_rmul (F.args_int_rmul_2 _ _) (int_rmul_tuple 0 t l its.toArray n dd sl)
          ⟨ho, rfl, ⟨_, ho, rfl⟩, call_meets F.slot_tuple_mul ⟨_, ho, rfl⟩ F.entry_tuple_mul (F.args_tuple_mul_2 _ _) (tuple_mul0 l its.toArray n dd sl t hx) ⟨ho, ?_⟩⟩)
      refine ⟨.ref s.heap.objs.size, _, I.laid (t' := s.toks) (o := .tup []) (fun b ob q => Heap.get?_push_of_some _ q) (Nat.le_refl _) ?_, rfl, q2 _ (I.hok.fresh (Nat.le_refl _))⟩
      exact ⟨by decide, [], .nil, IsTup.new _ _⟩
def rRepS : R2 := fun x y H Q => ∃ (z : Str) (k : Int), x = .str z ∧ y = .int k ∧ 0 ≤ k ∧ k ≤ 1000 ∧ z.length ≤ 1000 ∧ Q (.str ⟨(List.replicate k.toNat z.cps.toList).flatten.toArray⟩) H
theorem rep_foldl (x : Array Nat) : ∀ (m : Nat), (List.replicate m x).foldl (· ++ ·) #[] = (List.replicate m x.toList).flatten.toArray := fun m => by
  have : ∀ (m : Nat) (a : Array Nat), (List.replicate m x).foldl (· ++ ·) a = a ++ (List.replicate m x.toList).flatten.toArray := by
    intro m
    induction m with
    | zero => intro a; simp
    | succ m ih => intro a; rw [List.replicate_succ, List.foldl_cons, ih, List.replicate_succ, List.flatten_cons, Array.append_assoc]; congr 1; apply Array.ext'; simp
  rw [this]
  simp
theorem op_repS : OpR X (binaryOp .Mult) rRepS := by
  intro pins s σ H x y v u Q I rx ry h
  obtain ⟨z, k, rfl, rfl, h1, h2, h3, q⟩ := h
  obtain ⟨t, rfl⟩ := rx
  obtain ⟨t2, rfl⟩ := ry
  have hb : z.length * k.toNat ≤ 1000 * 1000 := Nat.mul_le_mul h3 (by omega)
  refine PySem.P.mul_str (by rw [decide_eq_false (by omega), decide_eq_false (by omega)] <;> rfl) (fun a _ => ?_) (fun _ _ => ?_) ?_
  · have a1 : (1000 : Int) ≤ (2 ^ 63 - 1) / k := by
      rw [Int.le_ediv_iff_mul_le (by omega)]
      omega
    omega
  · unfold Builtin.Str.tooLong
    rw [sizeLine_eq]
    exact decide_eq_false (by omega)
  · by_cases c1 : k < 1
    · rw [if_pos c1]
      have : k = 0 := by omega
      subst this
      exact ⟨by decide, .str ⟨#[]⟩, H, I.tok _, ⟨_, rfl⟩, q⟩
    · rw [if_neg c1]
      cases c2 : (k == 1 || z.length == 0) with
      | true =>
        rw [if_pos rfl]
        refine ⟨.str z, H, I, ⟨_, rfl⟩, ?_⟩
        have e : (⟨(List.replicate k.toNat z.cps.toList).flatten.toArray⟩ : Str) = z := by
          obtain ⟨⟨z⟩⟩ := z
          congr 1
          apply Array.ext'
          simp only [Bool.or_eq_true, beq_iff_eq] at c2
          rcases c2 with rfl | c2
          · simp
          · have : z = [] := List.eq_nil_of_length_eq_zero (by simpa [Str.length] using c2)
            subst this
            simp
        rw [e] at q
        exact q
      | false =>
        rw [if_neg Bool.false_ne_true, rep_foldl]
        refine ⟨?_, .str _, H, I.tok _, ⟨_, rfl⟩, q⟩
        show (List.replicate k.toNat z.cps.toList).flatten.toArray.size ≤ sizeLine
        rw [List.size_toArray, PyProof.Rows.lm_len_rep_flat, sizeLine_eq]
        have e : z.cps.toList.length = z.length := by simp [Str.length]
        rw [e, Nat.mul_comm]
        omega
end
end Pl

set_option maxRecDepth 100000
set_option maxHeartbeats 4000000
/-! tuple[::-1]. -/
namespace Pl
open PySem PySem.Spec PyProof.Rows L2 HT
section
variable {prog : Program} {w : World} {A : Around} {E : Value → Shared → Prop} {s : Shared}
theorem sliceApplied_rev {sl : Addr} {tk : Tok} {n : Nat} {Q : Int × Int × Nat → Shared → Prop} (hs : s.heap.IsSliceOf sl .none .none (.int (-1) tk))
    (h : Q ((n : Int) - 1, -1, n) s) : wpAny (model prog w) A (Builtin.Slice.sliceApplied (.ref sl) (pure (n : Int))) Q E s := by
  obtain ⟨os, hos, hcs, hds⟩ := id hs
  unfold Builtin.Slice.sliceApplied Builtin.Slice.sliceFields
  refine wpAny_bind (wpAny_bind (wpAny_field hos hds (x := .none) rfl (wpAny_bind (wpAny_field hos hds (x := .none) rfl (wpAny_bind (wpAny_field hos hds (x := .int (-1) tk) rfl (wpAny_pure ?_)))))))
  refine wpAny_bind (slicePart_int ?_)
  show wpAny _ _ (if ((-1 : Int) == 0) = true then _ else _) _ _ s
  rw [if_neg (by decide)]
  refine wpAny_bind (slicePart_none (wpAny_bind (slicePart_none (wpAny_bind (wpAny_pure ?_)))))
  have e : Builtin.Slice.slicePlaces ((n : Int) - 1) (-1) (-1) = n := by
    unfold Builtin.Slice.slicePlaces
    rw [if_neg (by decide)]
    simp only [Int.neg_neg, Int.ediv_one]
    split <;> omega
  show wpAny _ _ (pure ((n : Int) - 1, (-1 : Int), Builtin.Slice.slicePlaces ((n : Int) - 1) (-1) (-1))) _ _ s
  rw [e]
  exact wpAny_pure h
theorem fm_congr {α β : Type} {f g : α → Option β} : ∀ {l : List α}, (∀ x ∈ l, f x = g x) → l.filterMap f = l.filterMap g
  | [], _ => rfl
  | x :: l, h => by
    rw [List.filterMap_cons, List.filterMap_cons, h x List.mem_cons_self, fm_congr fun y hy => h y (List.mem_cons_of_mem _ hy)]
theorem pick_rev (xs : Array Value) : ((List.range xs.size).filterMap fun (m : Nat) => xs[(((xs.size : Nat) : Int) - 1 + (m : Int) * (-1)).toNat]?).toArray = xs.toList.reverse.toArray := by
  congr 1
  have h1 : (List.range xs.size).filterMap (fun (m : Nat) => xs[(((xs.size : Nat) : Int) - 1 + (m : Int) * (-1)).toNat]?) = (List.range xs.size).filterMap (fun m => xs.toList.reverse[m]?) := by
    refine fm_congr fun m hm => ?_
    have hm := List.mem_range.mp hm
    rw [List.getElem?_reverse (by simpa using hm), Array.getElem?_toList, Array.length_toList]
    congr 1
    omega
  rw [h1]
  have h2 : ∀ (l : List Value), (List.range l.length).filterMap (fun m => l[m]?) = l := fun l => by
    have h3 : ∀ (k : Nat), k ≤ l.length → (List.range k).filterMap (fun m => l[m]?) = l.take k := fun k => by
      induction k with
      | zero => intro _; simp
      | succ k ih =>
        intro hk
        rw [List.range_succ, List.filterMap_append, ih (by omega), List.take_add_one]
        congr 1
    rw [h3 l.length (Nat.le_refl _), List.take_length]
  have h4 := h2 xs.toList.reverse
  rw [List.length_reverse, Array.length_toList] at h4
  exact h4
theorem getItem_tuple_rev {t sl : Addr} {items : Array Value} {tk : Tok} {Q : Value → Shared → Prop} (ht : IsTup s.heap t items) (hs : s.heap.IsSliceOf sl .none .none (.int (-1) tk))
    (h : Q (.ref s.heap.objs.size) { s with heap := s.heap.push { cls := .type "tuple", data := .seq items.toList.reverse.toArray } }) (hsz : items.size ≤ sizeLine) : wpAny (model prog w) A (getItem (.ref t) (.ref sl)) Q E s := by
  have htake : sizeOk (.seq items.toList.reverse.toArray) := by
    show items.toList.reverse.toArray.size ≤ sizeLine
    simpa using hsz
  obtain ⟨os, hos, hcs, hds⟩ := id hs
  have hTs : s.TypeIs (.ref sl) "slice" := ⟨os, hos, hcs⟩
  unfold getItem
  try with_reducible refine wpAny_holding ?_
  first | refine wpAny_bind (wpAny_pure ?_) | skip
  refine wpAny_bind (wpAny_sequenceKey ht.typeIs (by decide) ?_)
  refine wpAny_bind (wpAny_callSpecial?_slot (name := Str.ofString "__getitem__") ht.typeIs PyProof.Rows.slot_tuple_getitem
    (wpAny_call_entry PyProof.Rows.slot_tuple_getitem ht.typeIs entry_tuple_getitem ?_ (args_tuple_getitem _ _)))
  show wpAny _ _ (Builtin.Tuple.tupleItemsOf (.ref t) >>= _) _ _ s
  refine wpAny_bind (tupleItemsOf_ ht ?_)
  refine wpAny_bind (wpAny_typeOf hTs ?_)
  rw [if_pos (by decide)]
  refine wpAny_bind (sliceApplied_rev hs ?_)
  have hno : ¬ (((((items.size : Nat) : Int) - 1) == 0 && (-1 : Int) == 1 && items.size == items.size) = true) := by
    rw [Bool.and_eq_true, Bool.and_eq_true]
    rintro ⟨⟨_, q⟩, _⟩
    exact absurd q (by decide)
  show wpAny _ _ (if ((((items.size : Nat) : Int) - 1) == 0 && (-1 : Int) == 1 && items.size == items.size) = true then _ else _) _ _ s
  rw [if_neg hno, pick_rev]
  first
    | exact wpAny_bind (m := Builtin.Tuple.tupleExact _) (wpAny_newObj_type (wpAny_pure ⟨_, rfl, wpAny_pure h⟩) htake)
    | exact wpAny_bind (m := Builtin.Tuple.tupleExact _) (wpAny_newObj_type (wpAny_bind (wpAny_pure (wpAny_pure ⟨_, rfl, wpAny_pure h⟩))) htake)
    | exact wpAny_bind (wpAny_bind (m := Builtin.Tuple.tupleExact _) (wpAny_newObj_type (wpAny_pure (wpAny_pure ⟨_, rfl, wpAny_pure h⟩)) htake))
    | exact wpAny_bind (wpAny_bind (m := Builtin.Tuple.tupleExact _) (wpAny_newObj_type (wpAny_pure ⟨_, rfl, wpAny_pure h⟩) htake))
end
end Pl

/-! A small language of my own: its values, its store, its meaning. -/
namespace Pl
open PySem

inductive D where
  | non | bl (b : Bool) | int (i : Int) | str (x : List Nat) | tup (ds : List D) | ref (n : Nat) | gl (n : Nat) | fro (ds : List D) | frd (ks : List L2.Key) (ds : List D) | fri (c : Nat) (fs : List Str) (ds : List D) | scr (ds : List D)
inductive Ob where
  | lst (ds : List D)
  | dct (kvs : List (L2.Key × D))
  | ins (c : Nat) (fs : List (Str × D))
abbrev Sto := List Ob
abbrev Slo := List (Option D)
structure Xc where
  c : Nat
  fs : List (Nat × D)
inductive R (α : Type) where
  | ok (a : α) (S : Sto)
  | exc (x : Xc) (S : Sto)
  | bad
def R.bind {α β : Type} (r : R α) (f : α → Sto → R β) : R β := match r with
  | .ok a S => f a S
  | .exc x S => .exc x S
  | .bad => .bad
@[simp] theorem R.bind_ok {α β : Type} (a : α) (S : Sto) (f : α → Sto → R β) : (R.ok a S).bind f = f a S := rfl
@[simp] theorem R.bind_exc {α β : Type} (x : Xc) (S : Sto) (f : α → Sto → R β) : (R.exc x S : R α).bind f = .exc x S := rfl
@[simp] theorem R.bind_bad {α β : Type} (f : α → Sto → R β) : (R.bad : R α).bind f = .bad := rfl
theorem R.bind_assoc {α β γ : Type} (r : R α) (f : α → Sto → R β) (g : β → Sto → R γ) : (r.bind f).bind g = r.bind fun a S => (f a S).bind g := by
  cases r <;> rfl
/-- where no exception may leave -/
def R.nox {α : Type} (r : R α) : R α := match r with
  | .ok a S => .ok a S
  | _ => .bad
@[simp] theorem R.nox_ok {α : Type} (a : α) (S : Sto) : (R.ok a S).nox = .ok a S := rfl

inductive BOp where | add | sub | mul | fdiv | mod | pow
inductive COp where | eq | ne | lt | le | gt | ge | isin | notin | isN | notN
/-- classes that isinstance asks for -/
inductive Ty where | int | bool | str | list | tuple

/-- methods of lists -/
inductive Ag where | mn | mx | sm
inductive LM where | insert | pop | popAt | reverse | clear | extend
mutual
inductive Ex where
  | var (i : Nat)
  | glo (n : Nat)
  | cst (d : D)
  | tup (es : List Ex)
  | bin (op : BOp) (a b : Ex)
  | neg (a : Ex)
  | cmp (op : COp) (a b : Ex)
  | chn (o1 o2 : COp) (a b c : Ex)
  | and_ (a b : Ex)
  | or_ (a b : Ex)
  | not_ (a : Ex)
  | ifx (c : Te) (a b : Ex)
  | idx (a b : Ex)
  | sli (a : Ex) (lo hi : Option Ex)
  | call (f : Nat) (es : List Ex)
  | callk (f : Nat) (es ks : List Ex) (perm : List Nat)
  | new (f : Fr)
  | len (e : Ex)
  | lenq (q : Sq)
  | all_ (q : Sq)
  | any_ (q : Sq)
  | tupq (q : Sq)
  | join (s : Ex) (q : Sq)
  | find3 (s t i : Ex)
  | part (s t : Ex)
  | isi (e : Ex) (t : Ty)
  | isi2 (e : Ex) (t u : Ty)
  | app (o e : Ex)
  | lm (m : LM) (o : Ex) (es : List Ex)
  | rev (e : Ex)
  | intb (e : Ex)
  | no
  | dnew
  | disp (es : List Ex)
  | dget (o i : Ex)
  | din (neg : Bool) (i o : Ex)
  | dlen (o : Ex)
  | dgt1 (o i : Ex)
  | attr (c : Nat) (e : Ex) (f : Str)
  | meth (c : Nat) (m : Str) (g : Nat) (o : Ex) (es : List Ex)
  | make (c g : Nat) (es : List Ex)
  | calls (m : Nat) (b : Bool) (f : Nat) (es : List Ex)
  | meths (m : Nat) (b : Bool) (c : Nat) (x : Str) (g : Nat) (o : Ex) (es : List Ex)
  | makes (m : Nat) (c g : Nat) (es : List Ex)
  | frn (f : Fr)
  | revs (e : Ex)
  | mm (mx : Bool) (a b : Ex)
  | lidx (o e : Ex)
  | callv (fs : List Nat) (m : Nat) (b : Bool) (f : Ex) (es : List Ex)
  | agg (k : Ag) (q : Sq)
inductive Te where
  | ex (e : Ex)
  | cmp (op : COp) (a b : Ex)
  | chn (o1 o2 : COp) (a b c : Ex)
  | and_ (a b : Te)
  | or_ (a b : Te)
  | not_ (a : Te)
inductive Fr where
  | lst (es : List Ex)
  | lc (own : List (Str × Nat)) (tg : List Nat) (pat : Bool) (it : It) (cond : Option Te) (elt : Ex)
  | list (q : Sq)
  | cut (e : Ex) (lo hi : Option Ex)
  | dkeys (e : Ex)
  | sortT (q : Sq)
  | sset (q : Sq)
  | chars (e : Ex)
inductive Sq where
  | ex (e : Ex)
  | fr (f : Fr)
inductive It where
  | sq (q : Sq)
  | str (e : Ex)
  | rng (hi : Ex)
  | rng2 (lo hi : Ex)
  | zip (a b : Sq)
  | enum (a : Sq)
end

/-! ### values -/
def lim : Nat := 100000
def scalE : D → D → Option Bool
  | .non, .non => some true
  | .non, .int _ => some false | .int _, .non => some false
  | .non, .bl _ => some false | .bl _, .non => some false
  | .non, .str _ => some false | .str _, .non => some false
  | .int i, .int j => some (decide (i = j))
  | .bl a, .bl b => some (decide (a = b))
  | .str x, .str y => some (decide (x = y))
  | .int _, .str _ => some false | .str _, .int _ => some false
  | .bl _, .str _ => some false | .str _, .bl _ => some false
  | _, _ => none
mutual
def pdR (g : Nat → Option PyData) : D → Option PyData
  | .non => some .none
  | .bl b => some (.bool b)
  | .int i => some (.int i)
  | .str x => some (.str ⟨x.toArray⟩)
  | .tup ds => (pdRs g ds).map .tuple
  | .ref n => g n
  | .gl _ => none
  | .fro ds => (pdRs g ds).map .list
  | .frd _ _ => none
  | .fri _ _ _ => none
  | .scr _ => none
def pdRs (g : Nat → Option PyData) : List D → Option (List PyData)
  | [] => some []
  | d :: ds => match pdR g d, pdRs g ds with
    | some x, some xs => some (x :: xs)
    | _, _ => none
end
/-- the data that a value is, lists to a depth -/
def pdN (S : Sto) : Nat → Nat → Option PyData
  | 0, _ => none
  | n + 1, i => match S[i]? with
    | some (.lst ds) => (pdRs (pdN S n) ds).map .list
    | _ => none
def pd (S : Sto) (d : D) : Option PyData := pdR (pdN S 4) d
def eqV (neg : Bool) (a b : D) (S : Sto) : R D := match scalE a b with
  | some r => .ok (.bl (r ^^ neg)) S
  | none => match pd S a, pd S b with
    | some x, some y => if SeqAt.shaped x && SeqAt.shaped y then .ok (.bl (PyData.eqv x y ^^ neg)) S else .bad
    | _, _ => .bad
def intC : COp → Int → Int → Option Bool
  | .lt, i, j => some (decide (i < j))
  | .le, i, j => some (decide (i ≤ j))
  | .gt, i, j => some (decide (j < i))
  | .ge, i, j => some (decide (j ≤ i))
  | _, _, _ => none
def strC : COp → List Nat → List Nat → Option Bool
  | .lt, x, y => some (decide (x < y))
  | .le, x, y => some (!decide (y < x))
  | .gt, x, y => some (decide (y < x))
  | .ge, x, y => some (!decide (x < y))
  | _, _, _ => none
def flatD : D → Bool
  | .non => true | .bl _ => true | .int _ => true | .str _ => true
  | _ => false
def eqF : D → D → Bool
  | .non, .non => true
  | .bl a, .bl b => a == b
  | .bl a, .int b => (if a then 1 else 0) == b
  | .int a, .bl b => a == (if b then 1 else 0)
  | .int a, .int b => a == b
  | .str a, .str b => decide (a = b)
  | _, _ => false
/-- x in xs, the things of xs and x flat -/
def inF (x : D) (xs : List D) : Option Bool := if flatD x && xs.all flatD then some (xs.any fun y => eqF y x) else none
def inV (neg : Bool) (a b : D) (S : Sto) : R D := match a, b with
  | .str x, .str y => .ok (.bl ((!(Builtin.Str.occurrences ⟨y.toArray⟩ ⟨x.toArray⟩ 0 y.length 1).isEmpty) ^^ neg)) S
  | x, .tup ys => match inF x ys with
    | some r => .ok (.bl (r ^^ neg)) S
    | none => .bad
  | x, .fro ys => match inF x ys with
    | some r => .ok (.bl (r ^^ neg)) S
    | none => .bad
  | x, .ref i => match S[i]? with
    | some (.lst ys) => match inF x ys with
      | some r => .ok (.bl (r ^^ neg)) S
      | none => .bad
    | _ => .bad
  | _, _ => .bad
def cmpV (op : COp) (a b : D) (S : Sto) : R D := match op with
  | .eq => eqV false a b S
  | .ne => eqV true a b S
  | .isin => inV false a b S
  | .notin => inV true a b S
  | .isN => match b with
    | .non => .ok (.bl (match a with | .non => true | _ => false)) S
    | .bl k => match a with
      | .bl j => .ok (.bl (j == k)) S
      | _ => .bad
    | _ => .bad
  | .notN => match b with
    | .non => .ok (.bl (match a with | .non => false | _ => true)) S
    | _ => .bad
  | op => match a, b with
    | .int i, .int j => match intC op i j with
      | some r => .ok (.bl r) S
      | none => .bad
    | .str x, .str y => match strC op x y with
      | some r => .ok (.bl r) S
      | none => .bad
    | _, _ => .bad
def binV (op : BOp) (a b : D) (S : Sto) : R D := match op, a, b with
  | .add, .int i, .int j => .ok (.int (i + j)) S
  | .add, .str x, .str y => if x.length + y.length ≤ lim then .ok (.str (x ++ y)) S else .bad
  | .add, .tup x, .tup y => if x.length + y.length ≤ lim then .ok (.tup (x ++ y)) S else .bad
  | .add, .ref i, .ref j => match S[i]?, S[j]? with
    | some (.lst x), some (.lst y) => if x.length + y.length ≤ lim then .ok (.ref S.length) (S ++ [.lst (x ++ y)]) else .bad
    | _, _ => .bad
  | .add, .fro x, .fro y => if x.length + y.length ≤ lim then .ok (.fro (x ++ y)) S else .bad
  | .add, .fro x, .ref j => match S[j]? with
    | some (.lst y) => if x.length + y.length ≤ lim then .ok (.fro (x ++ y)) S else .bad
    | _ => .bad
  | .add, .ref i, .fro y => match S[i]? with
    | some (.lst x) => if x.length + y.length ≤ lim then .ok (.fro (x ++ y)) S else .bad
    | _ => .bad
  | .mul, .fro x, .int k => if x.length * k.toNat ≤ lim ∧ k.natAbs < 2 ^ 63 then .ok (.fro (List.replicate k.toNat x).flatten) S else .bad
  | .mul, .str x, .int k => if 0 ≤ k ∧ k ≤ 1000 ∧ x.length ≤ 1000 then .ok (.str (List.replicate k.toNat x).flatten) S else .bad
  | .mul, .tup x, .int k => if k = 1 then .ok (.tup x) S else if k = 0 then .ok (.tup []) S else .bad
  | .sub, .int i, .int j => .ok (.int (i - j)) S
  | .mul, .int i, .int j => if j.natAbs < 2 ^ 63 then .ok (.int (i * j)) S else .bad
  | .fdiv, .int i, .int j => if 0 < j ∧ j < 2 ^ 30 then .ok (.int (i / j)) S else .bad
  | .mod, .int i, .int j => if 0 < j then .ok (.int (i % j)) S else .bad
  | .pow, .int i, .int j => if 0 ≤ j ∧ j ≤ 1000 ∧ i.natAbs < 2 ^ 62 then .ok (.int (i ^ j.toNat)) S else .bad
  | _, _, _ => .bad
def ixD (xs : List D) (i : Int) : Option D := L2.atI xs i
def idxV (a b : D) (S : Sto) : R D := match a, b with
  | .tup xs, .int i => match L2.atI xs i with
    | some d => .ok d S
    | none => .bad
  | .fro xs, .int i => match L2.atI xs i with
    | some d => .ok d S
    | none => .bad
  | .str xs, .int i => match (if xs.length ≤ lim then L2.atI xs i else none) with
    | some c => .ok (.str [c]) S
    | none => .bad
  | .ref n, .int i => match S[n]? with
    | some (.lst xs) => match L2.atI xs i with
      | some d => .ok d S
      | none => .bad
    | _ => .bad
  | _, _ => .bad
def cutL {α : Type} (xs : List α) (lo hi : Option Int) : List α := (xs.drop (HT.sIx xs.length 0 lo)).take (HT.sIx xs.length xs.length hi - HT.sIx xs.length 0 lo)
def sliV (a : D) (lo hi : Option Int) (S : Sto) : R D := match a with
  | .str x => if x.length ≤ lim then .ok (.str (cutL x lo hi)) S else .bad
  | .tup xs => .ok (.tup (cutL xs lo hi)) S
  | .ref n => match S[n]? with
    | some (.lst xs) => .ok (.ref S.length) (S ++ [.lst (cutL xs lo hi)])
    | _ => .bad
  | .fro xs => .ok (.fro (cutL xs lo hi)) S
  | _ => .bad
/-- truth -/
def truV (d : D) (S : Sto) : R Bool := match d with
  | .bl b => .ok b S
  | .non => .ok false S
  | .int i => .ok (i != 0) S
  | .str x => if x.length ≤ lim then .ok (x.length != 0) S else .bad
  | .tup ds => .ok (!ds.isEmpty) S
  | .ref n => match S[n]? with
    | some (.lst ds) => .ok (!ds.isEmpty) S
    | _ => .bad
  | .fro ds => .ok (!ds.isEmpty) S
  | .gl _ => .bad
  | .frd ks _ => .bad
  | .fri _ _ _ => .bad
  | .scr _ => .bad
/-- a row of things: of what stands in the store it leans on the places g; tup: a tuple, no list -/
structure Sv where
  ds : List D
  g : List Nat
  tup : Bool
/-- the things of a list or tuple that stands -/
def seqV (d : D) (S : Sto) : R Sv := match d with
  | .tup ds => .ok ⟨ds, [], true⟩ S
  | .fro ds => .ok ⟨ds, [], false⟩ S
  | .scr ds => .ok ⟨ds, [], false⟩ S
  | .ref n => match S[n]? with
    | some (.lst ds) => .ok ⟨ds, [n], false⟩ S
    | _ => .bad
  | _ => .bad
def lenV (d : D) (S : Sto) : R D := match d with
  | .str x => if x.length ≤ lim then .ok (.int x.length) S else .bad
  | .tup ds => .ok (.int ds.length) S
  | .fro ds => .ok (.int ds.length) S
  | .ref n => match S[n]? with
    | some (.lst ds) => .ok (.int ds.length) S
    | _ => .bad
  | _ => .bad
def boolsD : List D → Option (List Bool)
  | [] => some []
  | .bl b :: r => (boolsD r).map fun bs => b :: bs
  | _ => none
def intsD : List D → Option (List Int)
  | [] => some []
  | .int x :: r => (intsD r).map fun xs => x :: xs
  | _ => none
def aggV : Ag → List Int → Option Int
  | .sm, xs => some xs.sum
  | .mn, [] => none
  | .mn, x :: xs => some (xs.foldl min x)
  | .mx, [] => none
  | .mx, x :: xs => some (xs.foldl max x)
def strsD : List D → Option (List (List Nat))
  | [] => some []
  | .str x :: r => (strsD r).map fun xs => x :: xs
  | _ => none
def joinL (s : List Nat) : List (List Nat) → List Nat
  | [] => []
  | [x] => x
  | x :: r => x ++ s ++ joinL s r
def tyOf : D → Sto → Option (List Ty)
  | .non, _ => some []
  | .bl _, _ => some [.bool, .int]
  | .int _, _ => some [.int]
  | .str _, _ => some [.str]
  | .tup _, _ => some [.tuple]
  | .ref n, S => match S[n]? with
    | some (.lst _) => some [.list]
    | _ => none
  | .gl _, _ => none
  | .fro _, _ => some [.list]
  | .frd _ _, _ => none
  | .fri _ _ _, _ => none
  | .scr _, _ => none
def Ty.eqb : Ty → Ty → Bool
  | .int, .int => true | .bool, .bool => true | .str, .str => true | .list, .list => true | .tuple, .tuple => true
  | _, _ => false
def isV (d : D) (ts : List Ty) (S : Sto) : R D := match tyOf d S with
  | some us => .ok (.bl (ts.any fun t => us.any fun u => t.eqb u)) S
  | none => .bad
open Classical in
/-- what the walk leans on stands as it stood -/
noncomputable def grd {α : Type} (g : List Nat) (S S' : Sto) (r : R α) : R α := if ∀ i ∈ g, S'[i]? = S[i]? then r else .bad
theorem grd_nil {α : Type} (S S' : Sto) (r : R α) : grd [] S S' r = r := by unfold grd; rw [if_pos]; simp
theorem grd_same {α : Type} (g : List Nat) (S : Sto) (r : R α) : grd g S S r = r := by unfold grd; rw [if_pos]; simp
/-- a target: one name, or names for a tuple's things -/
def setAll : List Nat → List D → Slo → Option Slo
  | [], [], ρ => some ρ
  | i :: is, d :: ds, ρ => setAll is ds (ρ.set i (some d))
  | _, _, _ => none
def bindTg (tg : List Nat) (pat : Bool) (d : D) (ρ : Slo) : Option Slo := match pat with
  | false => match tg with
    | [i] => some (ρ.set i (some d))
    | _ => none
  | true => match d with
    | .tup ds => setAll tg ds ρ
    | _ => none
def wipeD (ρ : Slo) : List Nat → Slo
  | [] => ρ
  | v :: vs => (wipeD ρ vs).set v none
noncomputable def lcL (g : List Nat) (f : D → Sto → R (Option D)) : List D → Sto → R (List D)
  | [], S => .ok [] S
  | d :: r, S => (f d S).nox.bind fun o S1 => grd g S S1 ((lcL g f r S1).bind fun ds S2 => .ok (match o with | some x => x :: ds | none => ds) S2)

def lmV (m : LM) (n : Nat) (ds : List D) (S : Sto) : R D := match S[n]? with
  | some (.lst xs) => match m, ds with
    | .insert, [.int i, d] => if xs.length < lim ∧ 0 ≤ i ∧ i < 2 ^ 63 then .ok .non (S.set n (.lst (xs.take i.toNat ++ [d] ++ xs.drop i.toNat))) else .bad
    | .pop, [] => match xs[xs.length - 1]? with
      | some d => .ok d (S.set n (.lst xs.dropLast))
      | none => .bad
    | .popAt, [.int i] => if -(2 ^ 63) ≤ i ∧ i < 2 ^ 63 then match seqIndex? i xs.length with
        | some k => match xs[k]? with
          | some d => .ok d (S.set n (.lst (xs.eraseIdx k)))
          | none => .bad
        | none => .bad
      else .bad
    | .reverse, [] => .ok .non (S.set n (.lst xs.reverse))
    | .clear, [] => .ok .non (S.set n (.lst []))
    | .extend, [.ref m] => match S[m]? with
      | some (.lst ys) => if xs.length + ys.length ≤ lim then .ok .non (S.set n (.lst (xs ++ ys))) else .bad
      | _ => .bad
    | _, _ => .bad
  | _ => .bad
def revV (d : D) (S : Sto) : R D := match d with
  | .fro xs => .ok (.ref S.length) (S ++ [.lst xs.reverse])
  | .ref n => match S[n]? with
    | some (.lst xs) => .ok (.ref S.length) (S ++ [.lst xs.reverse])
    | _ => .bad
  | _ => .bad
/-- the texts of a list, each once -/
def dedL (xs : List (List Nat)) : List (List Nat) := xs.foldl (fun l x => if x ∈ l then l else x :: l) []
def sortL (xs : List (List Nat)) : List (List Nat) := xs.mergeSort fun a b => !Spec.ltCps b a
/-! ### dicts -/
def keyD : D → Option L2.Key
  | .int i => some (.inl i)
  | .str x => some (.inr ⟨x.toArray⟩)
  | _ => none
def dKey : L2.Key → D
  | .inl i => .int i
  | .inr x => .str x.cps.toList
def valD (kvs : List (L2.Key × D)) (k : L2.Key) : Option D := (kvs.find? fun kv => decide (kv.1 = k)).map (·.2)
def putD (kvs : List (L2.Key × D)) (k : L2.Key) (d : D) : List (L2.Key × D) :=
  if (kvs.any fun kv => decide (kv.1 = k)) = true then kvs.map (fun kv => if kv.1 = k then (kv.1, d) else kv) else kvs ++ [(k, d)]
def pairsD : List D → Option (List (L2.Key × D))
  | [] => some []
  | k :: d :: r => match keyD k, pairsD r with
    | some k, some kvs => some ((k, d) :: kvs)
    | _, _ => none
  | _ => none
/-- what the dict x has at y -/
def dctD (x y : D) (S : Sto) : Option (Option D) := match x, keyD y with
  | .ref n, some k => match S[n]? with
    | some (.dct kvs) => some (valD kvs k)
    | _ => none
  | .frd ks ds, some k => some (valD (ks.zip ds) k)
  | _, _ => none
def dgetV (x y : D) (S : Sto) : R D := match dctD x y S with
  | some (some d) => .ok d S
  | _ => .bad
def dputV (x y d : D) (S : Sto) : R Unit := match x, keyD y with
  | .ref n, some k => match S[n]? with
    | some (.dct kvs) => if kvs.length < lim then .ok () (S.set n (.dct (putD kvs k d))) else .bad
    | _ => .bad
  | _, _ => .bad
/-! ### instances -/
def insV (c : Nat) (x : D) (S : Sto) : Option (List (Str × D)) := match x with
  | .ref n => match S[n]? with
    | some (.ins c' fs) => if c' = c then some fs else none
    | _ => none
  | .fri c' fs ds => if c' = c then some (fs.zip ds) else none
  | _ => none
def putFD (f : Str) (d : D) : List (Str × D) → List (Str × D)
  | [] => [(f, d)]
  | (g, x) :: r => if g = f then (g, d) :: r else (g, x) :: putFD f d r
def setAV (c : Nat) (x : D) (f : Str) (d : D) (S : Sto) : R Unit := match x with
  | .ref n => match insV c x S with
    | some fs => if fs.length < 1000 then .ok () (S.set n (.ins c (putFD f d fs))) else .bad
    | none => .bad
  | _ => .bad
/-! ### places in lists -/
def isLst (x : D) (S : Sto) : Bool := match x with
  | .fro _ => true
  | .ref n => match S[n]? with
    | some (.lst _) => true
    | _ => false
  | _ => false
/-- the first place of an equal thing -/
def lidxV (x d : D) (S : Sto) : R D := match pd S x, pd S d with
  | some (.list ps), some p => if SeqAt.shaped (.list ps) && SeqAt.shaped p then match ps.findIdx? (fun z => PyData.eqv z p) with
      | some j => .ok (.int j) S
      | none => .bad
    else .bad
  | _, _ => .bad
/-! ### frozen things, calls that leave nothing behind -/
mutual
/-- of the store only places below m -/
def closedD (m : Nat) : D → Bool
  | .ref n => decide (n < m)
  | .tup ds => closedL m ds
  | .fro ds => closedL m ds
  | .frd _ ds => closedL m ds
  | .fri _ _ ds => closedL m ds
  | .scr ds => closedL m ds
  | .non => true | .bl _ => true | .int _ => true | .str _ => true | .gl _ => true
def closedL (m : Nat) : List D → Bool
  | [] => true
  | d :: ds => closedD m d && closedL m ds
end
mutual
/-- nothing frozen in it -/
def noF : D → Bool
  | .tup ds => noFL ds
  | .fro _ => false | .frd _ _ => false | .fri _ _ _ => false | .scr _ => false
  | .non => true | .bl _ => true | .int _ => true | .str _ => true | .gl _ => true | .ref _ => true
def noFL : List D → Bool
  | [] => true
  | d :: ds => noF d && noFL ds
end
def Ob.ds : Ob → List D
  | .lst ds => ds
  | .dct kvs => kvs.map (·.2)
  | .ins _ fs => fs.map (·.2)
def closedS (m : Nat) : Sto → Bool
  | [] => true
  | o :: S => closedL m o.ds && closedS m S
def noFS : Sto → Bool
  | [] => true
  | o :: S => noFL o.ds && noFS S
def mapO {α β : Type} (f : α → Option β) : List α → Option (List β)
  | [] => some []
  | a :: r => match f a, mapO f r with
    | some b, some bs => some (b :: bs)
    | _, _ => none
/-- the value as it stands now, places from m on read -/
def frz (S : Sto) (m : Nat) : Nat → D → Option D
  | 0, d => if closedD m d then some d else none
  | k + 1, d => if closedD m d then some d else match d with
    | .ref n => match S[n]? with
      | some (.lst ds) => (mapO (frz S m k) ds).map .fro
      | some (.dct kvs) => (mapO (frz S m k) (kvs.map (·.2))).map (.frd (kvs.map (·.1)))
      | some (.ins c fs) => (mapO (frz S m k) (fs.map (·.2))).map (.fri c (fs.map (·.1)))
      | none => none
    | .tup ds => (mapO (frz S m k) ds).map .tup
    | .fro ds => (mapO (frz S m k) ds).map .fro
    | _ => none
def plainX (x : Xc) : Bool := x.fs.all fun q => closedD 0 q.2 && noF q.2
/-- r works on the first m places alone; what it tells is frozen; b: places from m on are lent to it, to be read -/
def scp (m : Nat) (b : Bool) (r : List D → Sto → R D) (ds : List D) (S : Sto) : R D :=
  if (decide (m ≤ S.length) && closedS m (S.take m)) = true then
    match (if b then mapO (frz S m 6) ds else if closedL m ds then some ds else none) with
    | some es => match r es (S.take m) with
      | .ok d S1 => match frz S1 m 6 d with
        | some d' => if (closedS m (S1.take m) && (!b || (noF d' && noFS (S1.take m)))) = true then .ok d' (S1.take m ++ S.drop m) else .bad
        | none => .bad
      | .exc x S1 => if (plainX x && closedS m (S1.take m) && (!b || noFS (S1.take m))) = true then .exc x (S1.take m ++ S.drop m) else .bad
      | .bad => .bad
    | none => .bad
  else .bad
/-- an instance is made -/
def mkR (C : Nat → List D → Sto → R D) (c g : Nat) (ds : List D) (S : Sto) : R D := (C g (.ref S.length :: ds) (S ++ [.ins c []])).bind fun v S2 => match v with
  | .non => .ok (.ref S.length) S2
  | _ => .bad
/-- in another order -/
def permL {α : Type} (perm : List Nat) (xs : List α) : List α := perm.filterMap fun i => xs[i]?

/-! ### expressions -/
section
variable (C : Nat → List D → Sto → R D) (G : Nat → Option D)
mutual
noncomputable def ev : Ex → Slo → Sto → R D
  | .var i, ρ, S => match ρ[i]? with
    | some (some d) => .ok d S
    | _ => .bad
  | .glo n, _, S => match G n with
    | some d => .ok d S
    | none => .bad
  | .cst d, _, S => .ok d S
  | .tup es, ρ, S => (evs es ρ S).bind fun ds S1 => if ds.length ≤ lim then .ok (.tup ds) S1 else .bad
  | .bin op a b, ρ, S => (ev a ρ S).bind fun x S1 => (ev b ρ S1).bind fun y S2 => binV op x y S2
  | .neg a, ρ, S => (ev a ρ S).bind fun x S1 => match x with
    | .int i => .ok (.int (-i)) S1
    | _ => .bad
  | .cmp op a b, ρ, S => (ev a ρ S).bind fun x S1 => (ev b ρ S1).bind fun y S2 => cmpV op x y S2
  | .chn o1 o2 a b c, ρ, S => (ev a ρ S).bind fun x S1 => (ev b ρ S1).bind fun y S2 => (cmpV o1 x y S2).bind fun z S3 => match z with
    | .bl true => (ev c ρ S3).bind fun u S4 => cmpV o2 y u S4
    | .bl false => .ok (.bl false) S3
    | _ => .bad
  | .and_ a b, ρ, S => (ev a ρ S).bind fun x S1 => match x with
    | .bl true => ev b ρ S1
    | .bl false => .ok (.bl false) S1
    | _ => .bad
  | .or_ a b, ρ, S => (ev a ρ S).bind fun x S1 => match x with
    | .bl true => .ok (.bl true) S1
    | .bl false => ev b ρ S1
    | _ => .bad
  | .not_ a, ρ, S => (ev a ρ S).bind fun x S1 => match x with
    | .bl c => .ok (.bl (!c)) S1
    | _ => .bad
  | .ifx c a b, ρ, S => (evT c ρ S).bind fun k S1 => match k with
    | true => ev a ρ S1
    | false => ev b ρ S1
  | .idx a b, ρ, S => (ev a ρ S).bind fun x S1 => (ev b ρ S1).bind fun y S2 => idxV x y S2
  | .sli a lo hi, ρ, S => (ev a ρ S).bind fun x S1 => (evo lo ρ S1).bind fun l S2 => (evo hi ρ S2).bind fun h S3 => sliV x l h S3
  | .call f es, ρ, S => (evs es ρ S).bind fun ds S1 => C f ds S1
  | .callk f es ks perm, ρ, S => (evs es ρ S).bind fun ds S1 => (evs ks ρ S1).bind fun zs S2 => C f (permL perm (ds ++ zs)) S2
  | .new q, ρ, S => (evF q ρ S).bind fun ds S1 => .ok (.ref S1.length) (S1 ++ [.lst ds])
  | .len e, ρ, S => (ev e ρ S).bind fun d S1 => lenV d S1
  | .lenq q, ρ, S => (evQ q ρ S).bind fun p S1 => .ok (.int p.ds.length) S1
  | .all_ q, ρ, S => (evQ q ρ S).bind fun p S1 => match (if p.tup then none else boolsD p.ds) with
    | some bs => .ok (.bl (bs.all id)) S1
    | none => .bad
  | .any_ q, ρ, S => (evQ q ρ S).bind fun p S1 => match (if p.tup then none else boolsD p.ds) with
    | some bs => .ok (.bl (bs.any id)) S1
    | none => .bad
  | .tupq q, ρ, S => (evQ q ρ S).bind fun p S1 => .ok (.tup p.ds) S1
  | .join s q, ρ, S => (ev s ρ S).bind fun x S1 => match x with
    | .str t => (evQ q ρ S1).bind fun p S2 => match strsD p.ds with
      | some xs => if (xs.map List.length).sum + xs.length * t.length ≤ lim then .ok (.str (joinL t xs)) S2 else .bad
      | none => .bad
    | _ => .bad
  | .find3 s t i, ρ, S => (ev s ρ S).bind fun x S1 => match x with
    | .str a => (ev t ρ S1).bind fun y S2 => (ev i ρ S2).bind fun z S3 => match y, z with
      | .str b, .int j => .ok (.int (Txt.find3 ⟨a.toArray⟩ ⟨b.toArray⟩ j)) S3
      | _, _ => .bad
    | _ => .bad
  | .part s t, ρ, S => (ev s ρ S).bind fun x S1 => match x with
    | .str a => (ev t ρ S1).bind fun y S2 => match y with
      | .str b => if b.length = 0 ∨ lim < a.length then .bad else
        .ok (.tup [.str (Txt.partition ⟨a.toArray⟩ ⟨b.toArray⟩).1.cps.toList, .str (Txt.partition ⟨a.toArray⟩ ⟨b.toArray⟩).2.1.cps.toList, .str (Txt.partition ⟨a.toArray⟩ ⟨b.toArray⟩).2.2.cps.toList]) S2
      | _ => .bad
    | _ => .bad
  | .isi e t, ρ, S => (ev e ρ S).bind fun x S1 => isV x [t] S1
  | .isi2 e t u, ρ, S => (ev e ρ S).bind fun x S1 => isV x [t, u] S1
  | .app o e, ρ, S => (ev o ρ S).bind fun x S1 => match x with
    | .ref n => match S1[n]? with
      | some (.lst _) => (ev e ρ S1).bind fun d S2 => match S2[n]? with
        | some (.lst ds) => if ds.length < lim then .ok .non (S2.set n (.lst (ds ++ [d]))) else .bad
        | _ => .bad
      | _ => .bad
    | _ => .bad
  | .lm m o es, ρ, S => (ev o ρ S).bind fun x S1 => match x with
    | .ref n => match S1[n]? with
      | some (.lst _) => (evs es ρ S1).bind fun ds S2 => lmV m n ds S2
      | _ => .bad
    | _ => .bad
  | .rev e, ρ, S => (ev e ρ S).bind fun x S1 => revV x S1
  | .intb e, ρ, S => (ev e ρ S).bind fun x S1 => match x with
    | .int i => .ok (.int i) S1
    | .bl b => .ok (.int (if b then 1 else 0)) S1
    | _ => .bad
  | .no, _, _ => .bad
  | .dnew, _, S => .ok (.ref S.length) (S ++ [.dct []])
  | .disp es, ρ, S => (evs es ρ S).bind fun ds S1 => match pairsD ds with
    | some kvs => if kvs.length ≤ 15 then .ok (.ref S1.length) (S1 ++ [.dct (kvs.foldl (fun a kv => putD a kv.1 kv.2) [])]) else .bad
    | none => .bad
  | .dget o i, ρ, S => (ev o ρ S).bind fun x S1 => (ev i ρ S1).bind fun y S2 => dgetV x y S2
  | .din neg i o, ρ, S => (ev i ρ S).bind fun y S1 => (ev o ρ S1).bind fun x S2 => match dctD x y S2 with
    | some r => .ok (.bl (r.isSome ^^ neg)) S2
    | none => .bad
  | .dlen o, ρ, S => (ev o ρ S).bind fun x S1 => match x with
    | .ref n => match S1[n]? with
      | some (.dct kvs) => .ok (.int kvs.length) S1
      | _ => .bad
    | .frd ks _ => .ok (.int ks.length) S1
    | _ => .bad
  | .dgt1 o i, ρ, S => (ev o ρ S).bind fun x S1 => match x with
    | .ref n => match S1[n]? with
      | some (.dct _) => (ev i ρ S1).bind fun y S2 => match dctD x y S2 with
        | some r => .ok (r.getD .non) S2
        | none => .bad
      | _ => .bad
    | .frd _ _ => (ev i ρ S1).bind fun y S2 => match dctD x y S2 with
      | some r => .ok (r.getD .non) S2
      | none => .bad
    | _ => .bad
  | .attr c e f, ρ, S => (ev e ρ S).bind fun x S1 => match insV c x S1 with
    | some fs => match fs.lookup f with
      | some d => .ok d S1
      | none => .bad
    | none => .bad
  | .meth c m g o es, ρ, S => (ev o ρ S).bind fun x S1 => match insV c x S1 with
    | some fs => match fs.lookup m with
      | some _ => .bad
      | none => (evs es ρ S1).bind fun ds S2 => C g (x :: ds) S2
    | none => .bad
  | .make c g es, ρ, S => (evs es ρ S).bind fun ds S1 => mkR C c g ds S1
  | .calls m b f es, ρ, S => (evs es ρ S).bind fun ds S1 => scp m b (C f) ds S1
  | .meths mm b c m g o es, ρ, S => (ev o ρ S).bind fun x S1 => match insV c x S1 with
    | some fs => match fs.lookup m with
      | some _ => .bad
      | none => (evs es ρ S1).bind fun ds S2 => scp mm b (C g) (x :: ds) S2
    | none => .bad
  | .makes m c g es, ρ, S => (evs es ρ S).bind fun ds S1 => scp m false (mkR C c g) ds S1
  | .frn q, ρ, S => (evF q ρ S).bind fun ds S1 => .ok (.fro ds) S1
  | .revs e, ρ, S => (ev e ρ S).bind fun d S1 => match d with
    | .str x => if x.length ≤ lim then .ok (.str x.reverse) S1 else .bad
    | .tup xs => .ok (.tup xs.reverse) S1
    | _ => .bad
  | .mm mx a b, ρ, S => (ev a ρ S).bind fun x S1 => (ev b ρ S1).bind fun y S2 => match x, y with
    | .int i, .int j => .ok (.int (match mx with | true => (if j > i then j else i) | false => (if j < i then j else i))) S2
    | _, _ => .bad
  | .lidx o e, ρ, S => (ev o ρ S).bind fun x S1 => if isLst x S1 then (ev e ρ S1).bind fun d S2 => lidxV x d S2 else .bad
  | .callv fs m b f es, ρ, S => (ev f ρ S).bind fun x S1 => match x with
    | .gl i => if fs.contains i then (evs es ρ S1).bind fun ds S2 => scp m b (C i) ds S2 else .bad
    | _ => .bad
  | .agg k q, ρ, S => (evQ q ρ S).bind fun p S1 => match (if p.tup then none else intsD p.ds) with
    | some xs => match aggV k xs with
      | some i => .ok (.int i) S1
      | none => .bad
    | none => .bad
noncomputable def evs : List Ex → Slo → Sto → R (List D)
  | [], _, S => .ok [] S
  | e :: es, ρ, S => (ev e ρ S).bind fun d S1 => (evs es ρ S1).bind fun ds S2 => .ok (d :: ds) S2
noncomputable def evo : Option Ex → Slo → Sto → R (Option Int)
  | none, _, S => .ok none S
  | some e, ρ, S => (ev e ρ S).bind fun d S1 => match d with
    | .int i => .ok (some i) S1
    | _ => .bad
noncomputable def evT : Te → Slo → Sto → R Bool
  | .ex e, ρ, S => (ev e ρ S).bind fun d S1 => truV d S1
  | .cmp op a b, ρ, S => (ev a ρ S).bind fun x S1 => (ev b ρ S1).bind fun y S2 => (cmpV op x y S2).bind fun z S3 => match z with
    | .bl k => .ok k S3
    | _ => .bad
  | .chn o1 o2 a b c, ρ, S => (ev a ρ S).bind fun x S1 => (ev b ρ S1).bind fun y S2 => (cmpV o1 x y S2).bind fun z S3 => match z with
    | .bl true => (ev c ρ S3).bind fun u S4 => (cmpV o2 y u S4).bind fun z S5 => match z with
      | .bl k => .ok k S5
      | _ => .bad
    | .bl false => .ok false S3
    | _ => .bad
  | .and_ a b, ρ, S => (evT a ρ S).bind fun k S1 => match k with
    | true => evT b ρ S1
    | false => .ok false S1
  | .or_ a b, ρ, S => (evT a ρ S).bind fun k S1 => match k with
    | true => .ok true S1
    | false => evT b ρ S1
  | .not_ a, ρ, S => (evT a ρ S).bind fun k S1 => .ok (!k) S1
noncomputable def evto : Option Te → Slo → Sto → R Bool
  | none, _, S => .ok true S
  | some t, ρ, S => evT t ρ S
/-- a list that is new -/
noncomputable def evF : Fr → Slo → Sto → R (List D)
  | .lst es, ρ, S => (evs es ρ S).bind fun ds S1 => if ds.length ≤ lim then .ok ds S1 else .bad
  | .lc own tg pat it cond elt, ρ, S => (evI it ρ S).bind fun p S1 => if p.ds.length ≤ lim then
      lcL p.g (fun d S2 => match bindTg tg pat d (wipeD ρ (own.map Prod.snd)) with
        | some ρ1 => (evto cond ρ1 S2).bind fun k S3 => match k with
          | true => (ev elt ρ1 S3).bind fun x S4 => .ok (some x) S4
          | false => .ok none S3
        | none => .bad) p.ds S1
      else .bad
  | .list q, ρ, S => (evQ q ρ S).bind fun p S1 => .ok p.ds S1
  | .cut e lo hi, ρ, S => (ev e ρ S).bind fun d S1 => (evo lo ρ S1).bind fun l S2 => (evo hi ρ S2).bind fun h S3 => (seqV d S3).bind fun p S4 => if p.tup then .bad else .ok (cutL p.ds l h) S4
  | .dkeys e, ρ, S => (ev e ρ S).bind fun d S1 => match d with
    | .ref n => match S1[n]? with
      | some (.dct kvs) => .ok (kvs.map fun kv => dKey kv.1) S1
      | _ => .bad
    | .frd ks _ => .ok (ks.map dKey) S1
    | _ => .bad
  | .sortT q, ρ, S => (evQ q ρ S).bind fun p S1 => match (if p.tup then none else strsD p.ds) with
    | some xs => if xs.length < 64 then .ok ((sortL xs).map D.str) S1 else .bad
    | none => .bad
  | .sset q, ρ, S => (evQ q ρ S).bind fun p S1 => match (if p.tup then none else strsD p.ds) with
    | some xs => if xs.length < 64 then .ok ((sortL (dedL xs)).map D.str) S1 else .bad
    | none => .bad
  | .chars e, ρ, S => (ev e ρ S).bind fun d S1 => match d with
    | .str x => if x.length ≤ lim then .ok (x.map fun c => .str [c]) S1 else .bad
    | _ => .bad
noncomputable def evQ : Sq → Slo → Sto → R Sv
  | .ex e, ρ, S => (ev e ρ S).bind fun d S1 => seqV d S1
  | .fr f, ρ, S => (evF f ρ S).bind fun ds S1 => .ok ⟨ds, [], false⟩ S1
noncomputable def evI : It → Slo → Sto → R Sv
  | .sq q, ρ, S => evQ q ρ S
  | .str e, ρ, S => (ev e ρ S).bind fun d S1 => match d with
    | .str x => .ok ⟨x.map fun c => .str [c], [], false⟩ S1
    | _ => .bad
  | .rng e, ρ, S => (ev e ρ S).bind fun d S1 => match d with
    | .int n => if -100000 ≤ n ∧ n ≤ 100000 then .ok ⟨(List.range n.toNat).map fun k => .int (k : Nat), [], false⟩ S1 else .bad
    | _ => .bad
  | .rng2 a b, ρ, S => (ev a ρ S).bind fun x S1 => (ev b ρ S1).bind fun y S2 => match x, y with
    | .int i, .int j => if -100000 ≤ i ∧ i ≤ 100000 ∧ -100000 ≤ j ∧ j ≤ 100000 then .ok ⟨(List.range (j - i).toNat).map fun k => .int (i + (k : Nat)), [], false⟩ S2 else .bad
    | _, _ => .bad
  | .zip a b, ρ, S => (evQ a ρ S).bind fun p S1 => (evQ b ρ S1).bind fun q S2 => grd p.g S1 S2 (if p.tup = q.tup then .ok ⟨(p.ds.zip q.ds).map fun xy => .tup [xy.1, xy.2], p.g ++ q.g, false⟩ S2 else .bad)
  | .enum a, ρ, S => (evQ a ρ S).bind fun p S1 => if p.tup then .bad else .ok ⟨((List.range p.ds.length).zip p.ds).map fun xy => .tup [.int (xy.1 : Nat), xy.2], p.g, false⟩ S1
end
end

/-! ### statements -/
inductive Sm where
  | asg (i : Nat) (e : Ex)
  | asgT (is : List Nat) (e : Ex)
  | setI (o i e : Ex)
  | augI (op : BOp) (o i e : Ex)
  | aug (op : BOp) (i : Nat) (e : Ex)
  | expr (e : Ex)
  | if_ (c : Te) (a b : List Sm)
  | for_ (tg : List Nat) (pat : Bool) (it : It) (b : List Sm)
  | while_ (c : Te) (b : List Sm)
  | ret (e : Ex)
  | retN
  | pass | brk | cont | no
  | dput (o i e : Ex)
  | setA (c : Nat) (o : Ex) (f : Str) (e : Ex)
  | dput2 (o i p j e : Ex)
  | par2 (i j : Nat) (a b : Ex)
inductive O where
  | next (ρ : Slo) (S : Sto) | brk (ρ : Slo) (S : Sto) | cont (ρ : Slo) (S : Sto)
  | ret (d : D) (S : Sto)
  | exc (x : Xc) (S : Sto)
  | bad
def R.o {α : Type} (r : R α) (f : α → Sto → O) : O := match r with
  | .ok a S => f a S
  | .exc x S => .exc x S
  | .bad => .bad
@[simp] theorem R.o_ok {α : Type} (a : α) (S : Sto) (f : α → Sto → O) : (R.ok a S).o f = f a S := rfl
@[simp] theorem R.o_exc {α : Type} (x : Xc) (S : Sto) (f : α → Sto → O) : (R.exc x S : R α).o f = .exc x S := rfl
@[simp] theorem R.o_bad {α : Type} (f : α → Sto → O) : (R.bad : R α).o f = .bad := rfl
def O.seq (o : O) (f : Slo → Sto → O) : O := match o with
  | .next ρ S => f ρ S
  | .brk ρ S => .brk ρ S
  | .cont ρ S => .cont ρ S
  | .ret d S => .ret d S
  | .exc x S => .exc x S
  | .bad => .bad
@[simp] theorem O.seq_next (ρ : Slo) (S : Sto) (f : Slo → Sto → O) : (O.next ρ S).seq f = f ρ S := rfl
@[simp] theorem O.seq_brk (ρ : Slo) (S : Sto) (f : Slo → Sto → O) : (O.brk ρ S).seq f = .brk ρ S := rfl
@[simp] theorem O.seq_cont (ρ : Slo) (S : Sto) (f : Slo → Sto → O) : (O.cont ρ S).seq f = .cont ρ S := rfl
@[simp] theorem O.seq_ret (d : D) (S : Sto) (f : Slo → Sto → O) : (O.ret d S).seq f = .ret d S := rfl
@[simp] theorem O.seq_exc (x : Xc) (S : Sto) (f : Slo → Sto → O) : (O.exc x S).seq f = .exc x S := rfl
@[simp] theorem O.seq_bad (f : Slo → Sto → O) : O.bad.seq f = .bad := rfl
/-- behind a loop's turn -/
def O.turn (o : O) (f : Slo → Sto → O) : O := match o with
  | .next ρ S => f ρ S
  | .brk ρ S => .next ρ S
  | .cont ρ S => f ρ S
  | .ret d S => .ret d S
  | .exc x S => .exc x S
  | .bad => .bad
@[simp] theorem O.turn_next (ρ : Slo) (S : Sto) (f : Slo → Sto → O) : (O.next ρ S).turn f = f ρ S := rfl
@[simp] theorem O.turn_brk (ρ : Slo) (S : Sto) (f : Slo → Sto → O) : (O.brk ρ S).turn f = .next ρ S := rfl
@[simp] theorem O.turn_cont (ρ : Slo) (S : Sto) (f : Slo → Sto → O) : (O.cont ρ S).turn f = f ρ S := rfl
@[simp] theorem O.turn_ret (d : D) (S : Sto) (f : Slo → Sto → O) : (O.ret d S).turn f = .ret d S := rfl
@[simp] theorem O.turn_exc (x : Xc) (S : Sto) (f : Slo → Sto → O) : (O.exc x S).turn f = .exc x S := rfl
@[simp] theorem O.turn_bad (f : Slo → Sto → O) : O.bad.turn f = .bad := rfl
open Classical in
noncomputable def grdO (g : List Nat) (S S' : Sto) (r : O) : O := if ∀ i ∈ g, S'[i]? = S[i]? then r else .bad
theorem grdO_nil (S S' : Sto) (r : O) : grdO [] S S' r = r := by unfold grdO; rw [if_pos]; simp
theorem grdO_same (g : List Nat) (S : Sto) (r : O) : grdO g S S r = r := by unfold grdO; rw [if_pos]; simp
noncomputable def forL (g : List Nat) (tg : List Nat) (pat : Bool) (f : Slo → Sto → O) : List D → Slo → Sto → O
  | [], ρ, S => .next ρ S
  | d :: r, ρ, S => match bindTg tg pat d ρ with
    | some ρ1 => (f ρ1 S).turn fun ρ2 S2 => grdO g S S2 (forL g tg pat f r ρ2 S2)
    | none => .bad
noncomputable def whl (c : Slo → Sto → R Bool) (f : Slo → Sto → O) : Nat → Slo → Sto → O
  | 0, _, _ => .bad
  | n + 1, ρ, S => (c ρ S).o fun k S1 => match k with
    | true => (f ρ S1).turn fun ρ2 S2 => whl c f n ρ2 S2
    | false => .next ρ S1
/-- the turns that a while may have -/
def fuel : Nat := 1000000
def setIV (o i d : D) (S : Sto) : R Unit := match o, i with
  | .ref n, .int k => match S[n]? with
    | some (.lst ds) => match L2.ixN ds.length k with
      | some j => .ok () (S.set n (.lst (ds.set j d)))
      | none => .bad
    | _ => .bad
  | _, _ => .bad
/-- x op= y -/
def augV (op : BOp) (a b : D) (S : Sto) : R D := match op, a, b with
  | .add, .int i, .int j => .ok (.int (i + j)) S
  | .add, .str x, .str y => if x.length + y.length ≤ lim then .ok (.str (x ++ y)) S else .bad
  | .sub, .int i, .int j => .ok (.int (i - j)) S
  | _, _, _ => .bad
/-- o[k], k a whole number that is not negative -/
def getIV (o i : D) (S : Sto) : R D := match o, i with
  | .ref n, .int k => match S[n]? with
    | some (.lst ds) => if 0 ≤ k then match ds[k.toNat]? with
        | some d => .ok d S
        | none => .bad
      else .bad
    | _ => .bad
  | _, _ => .bad
section
variable (C : Nat → List D → Sto → R D) (G : Nat → Option D)
mutual
noncomputable def ex : Sm → Slo → Sto → O
  | .asg i e, ρ, S => (ev C G e ρ S).o fun d S1 => .next (ρ.set i (some d)) S1
  | .asgT is e, ρ, S => (ev C G e ρ S).o fun d S1 => match bindTg is true d ρ with
    | some ρ1 => .next ρ1 S1
    | none => .bad
  | .setI o i e, ρ, S => (ev C G e ρ S).o fun d S1 => (ev C G o ρ S1).o fun x S2 => (ev C G i ρ S2).o fun y S3 => (setIV x y d S3).o fun _ S4 => .next ρ S4
  | .augI op o i e, ρ, S => (ev C G o ρ S).o fun x S1 => (ev C G i ρ S1).o fun y S2 => (getIV x y S2).o fun z S3 => (ev C G e ρ S3).o fun d S4 => (augV op z d S4).o fun u S5 => (setIV x y u S5).o fun _ S6 => .next ρ S6
  | .aug op i e, ρ, S => match ρ[i]? with
    | some (some x) => (ev C G e ρ S).o fun d S1 => (augV op x d S1).o fun u S2 => .next (ρ.set i (some u)) S2
    | _ => .bad
  | .expr e, ρ, S => (ev C G e ρ S).o fun _ S1 => .next ρ S1
  | .if_ c a b, ρ, S => (evT C G c ρ S).o fun k S1 => match k with
    | true => exs a ρ S1
    | false => exs b ρ S1
  | .for_ tg pat it b, ρ, S => (evI C G it ρ S).o fun sv S1 => forL sv.g tg pat (fun ρ S => exs b ρ S) sv.ds ρ S1
  | .while_ c b, ρ, S => whl (fun ρ S => evT C G c ρ S) (fun ρ S => exs b ρ S) fuel ρ S
  | .ret e, ρ, S => (ev C G e ρ S).o fun d S1 => .ret d S1
  | .retN, _, S => .ret .non S
  | .pass, ρ, S => .next ρ S
  | .brk, ρ, S => .brk ρ S
  | .cont, ρ, S => .cont ρ S
  | .no, _, _ => .bad
  | .dput o i e, ρ, S => (ev C G e ρ S).o fun d S1 => (ev C G o ρ S1).o fun x S2 => (ev C G i ρ S2).o fun y S3 => (dputV x y d S3).o fun _ S4 => .next ρ S4
  | .setA c o f e, ρ, S => (ev C G e ρ S).o fun d S1 => (ev C G o ρ S1).o fun x S2 => (setAV c x f d S2).o fun _ S3 => .next ρ S3
  | .dput2 o i p j e, ρ, S => (ev C G e ρ S).o fun d S1 => (ev C G o ρ S1).o fun x S2 => (ev C G i ρ S2).o fun y S3 => (dputV x y d S3).o fun _ S4 => (ev C G p ρ S4).o fun x S5 => (ev C G j ρ S5).o fun y S6 => (dputV x y d S6).o fun _ S7 => .next ρ S7
  | .par2 i j a b, ρ, S => (ev C G a ρ S).o fun x S1 => (ev C G b ρ S1).o fun y S2 => .next ((ρ.set i (some x)).set j (some y)) S2
noncomputable def exs : List Sm → Slo → Sto → O
  | [], ρ, S => .next ρ S
  | s :: r, ρ, S => (ex s ρ S).seq fun ρ1 S1 => exs r ρ1 S1
end
end
/-- a def: the count of its parameters, of its slots, its body -/
structure Fn where
  ps : Nat
  sl : Nat
  body : List Sm
def O.ret? (o : O) : R D := match o with
  | .next _ S => .ok .non S
  | .ret d S => .ok d S
  | .exc x S => .exc x S
  | _ => .bad
def startD (n m : Nat) (ds : List D) : Slo := ds.map some ++ List.replicate (m - n) none
noncomputable def runF (C : Nat → List D → Sto → R D) (G : Nat → Option D) (fn : Fn) (ds : List D) (S : Sto) : R D :=
  if ds.length = fn.ps then (exs C G fn.body (startD fn.ps fn.sl ds) S).ret? else .bad
/-- a table of defs; what its defs do, so many calls deep -/
abbrev Tab := Nat → Option Fn
noncomputable def run (T : Tab) (G : Nat → Option D) : Nat → Nat → List D → Sto → R D
  | 0, _, _, _ => .bad
  | k + 1, f, ds, S => match T f with
    | some fn => runF (run T G k) G fn ds S
    | none => .bad
end Pl

set_option maxHeartbeats 1000000
/-! How the values and the store of Pl stand in the model's heap, as HandS sees it. -/
namespace Pl
open PySem L2

/-- a list that is known to the object: it can't be changed -/
def SqF (K : PySem.W.Frag) (H : Hp) (a : Addr) (xs : List V) : Prop := (∃ o, H a = some (.frz o (.lst xs))) ∨ SqL K (fun _ => none) a xs
theorem SqF.l {K : PySem.W.Frag} {H : Hp} {a : Addr} {xs : List V} (h : SqF K H a xs) : SqL K H a xs := by
  rcases h with ⟨o, h⟩ | h | h
  · exact .inl (.inr ⟨o, h⟩)
  · rcases h with h | ⟨o, h⟩ <;> cases h
  · exact .inr h
/-- where the store's things stand; the things that are not changed any more -/
structure Io where
  st : List Addr
  fz : List Addr
def Io.add (ι : Io) (p : Addr) : Io := ⟨ι.st ++ [p], ι.fz⟩
def Io.frz (ι : Io) (p : Addr) : Io := ⟨ι.st, p :: ι.fz⟩
instance : Membership Addr Io := ⟨fun ι a => a ∈ ι.st ∨ a ∈ ι.fz⟩
theorem Io.mem {ι : Io} {a : Addr} : a ∈ ι ↔ a ∈ ι.st ∨ a ∈ ι.fz := Iff.rfl
theorem Io.nmem {ι : Io} {a : Addr} : a ∉ ι ↔ a ∉ ι.st ∧ a ∉ ι.fz := not_or
/-- a list that can't be changed -/
def SqZ (K : PySem.W.Frag) (ι : Io) (H : Hp) (a : Addr) (xs : List V) : Prop := a ∈ ι.fz ∧ H a = some (.lst xs)
theorem SqZ.l {K : PySem.W.Frag} {ι : Io} {H : Hp} {a : Addr} {xs : List V} (h : SqZ K ι H a xs) : SqL K H a xs := SqL.of h.2
section
variable (K : PySem.W.Frag) (nm : Nat → Addr)
mutual
def Rep (ι : Io) (H : Hp) : D → V → Prop
  | .non, v => v = .non
  | .bl b, v => v = .bl b
  | .int i, v => v = .int i
  | .str x, v => v = .str ⟨x.toArray⟩
  | .tup ds, v => ∃ a xs, v = .ref a ∧ SqT K H a xs ∧ Reps ι H ds xs
  | .ref n, v => ∃ a, ι.st[n]? = some a ∧ v = .ref a
  | .gl n, v => v = .ref (nm n)
  | .fro ds, v => ∃ a xs, v = .ref a ∧ SqZ K ι H a xs ∧ Reps ι H ds xs
  | .frd ks ds, v => ∃ a xs, v = .ref a ∧ (a ∈ ι.fz ∧ H a = some (.dK (ks.zip xs))) ∧ ks.length = ds.length ∧ Reps ι H ds xs
  | .fri c fs ds, v => ∃ a dx xs, v = .ref a ∧ (a ∈ ι.fz ∧ H a = some (.ins (nm c) dx (fs.zip xs))) ∧ fs.length = ds.length ∧ Reps ι H ds xs
  | .scr ds, v => ∃ a xs, v = .ref a ∧ SqF K H a xs ∧ Reps ι H ds xs
def Reps (ι : Io) (H : Hp) : List D → List V → Prop
  | [], xs => xs = []
  | d :: ds, xs => ∃ v r, xs = v :: r ∧ Rep ι H d v ∧ Reps ι H ds r
end
def RepK {κ : Type} (ι : Io) (H : Hp) : List (κ × D) → List (κ × V) → Prop
  | [], xs => xs = []
  | kd :: ds, xs => ∃ v r, xs = (kd.1, v) :: r ∧ Rep K nm ι H kd.2 v ∧ RepK ι H ds r
def ObU (ι : Io) (H : Hp) : Ob → HO → Prop
  | .lst ds, u => ∃ xs, u = .lst xs ∧ Reps K nm ι H ds xs
  | .dct kvs, u => ∃ xs, u = .dK xs ∧ RepK K nm ι H kvs xs
  | .ins c fs, u => ∃ dx xs, u = .ins (nm c) dx xs ∧ RepK K nm ι H fs xs
def ObR (ι : Io) (H : Hp) (a : Addr) (o : Ob) : Prop := ∃ u, H a = some u ∧ ObU K nm ι H o u
structure Rel (ι : Io) (S : Sto) (H : Hp) : Prop where
  len : ι.st.length = S.length
  nd : ι.st.Nodup
  dj : ∀ a ∈ ι.fz, a ∉ ι.st
  tr : ∀ a ∈ ι.fz, H a ≠ none
  ob : ∀ (i : Nat) (a : Addr) (o : Ob), ι.st[i]? = some a → S[i]? = some o → ObR K nm ι H a o
end
/-- from (ι, H) to (ι', H'): places come behind, all that is tracked beside the store stays, so does what is frozen -/
structure Ex' (ι : Io) (H : Hp) (ι' : Io) (H' : Hp) : Prop where
  pre : ∃ t, ι'.st = ι.st ++ t
  fzs : ∀ b ∈ ι.fz, b ∈ ι'.fz ∧ H' b = H b
  keep : ∀ b o, H b = some o → b ∉ ι → H' b = some o ∧ b ∉ ι'
section
variable {K : PySem.W.Frag} {nm : Nat → Addr} {ι ι' ι2 : Io} {H H' H2 : Hp} {S : Sto}
theorem Ex'.refl : Ex' ι H ι H := ⟨⟨[], by simp⟩, fun _ h => ⟨h, rfl⟩, fun _ _ h n => ⟨h, n⟩⟩
theorem Ex'.trans (a : Ex' ι H ι' H') (b : Ex' ι' H' ι2 H2) : Ex' ι H ι2 H2 := by
  obtain ⟨t, et⟩ := a.pre
  obtain ⟨u, eu⟩ := b.pre
  refine ⟨⟨t ++ u, by rw [eu, et]; simp⟩, fun x h => ?_, fun x o h n => ?_⟩
  · obtain ⟨h1, n1⟩ := a.fzs x h
    obtain ⟨h2, n2⟩ := b.fzs x h1
    exact ⟨h2, n2.trans n1⟩
  · obtain ⟨h1, n1⟩ := a.keep x o h n
    exact b.keep x o h1 n1
theorem Ex'.at_ (e : Ex' ι H ι' H') {i : Nat} {a : Addr} (h : ι.st[i]? = some a) : ι'.st[i]? = some a := by
  obtain ⟨t, et⟩ := e.pre
  have hl : i < ι.st.length := (List.getElem?_eq_some_iff.mp h).1
  rw [et, List.getElem?_append_left hl]
  exact h
theorem Ex'.same (e : Ex' ι H ι' H') {b : Addr} {o : HO} (h : H b = some o) (n : b ∉ ι.st) : H' b = some o := by
  by_cases f : b ∈ ι.fz
  · rw [(e.fzs b f).2]; exact h
  · exact (e.keep b o h (Io.nmem.mpr ⟨n, f⟩)).1
theorem Ex'.mem (e : Ex' ι H ι' H') {b : Addr} (h : b ∈ ι) : b ∈ ι' := by
  rcases h with h | h
  · obtain ⟨t, et⟩ := e.pre
    exact .inl (by rw [et]; exact List.mem_append_left _ h)
  · exact .inr (e.fzs b h).1
theorem ObU.nt {o : Ob} {u : HO} (h : ObU K nm ι H o u) : (∀ xs, u ≠ .tup xs) ∧ (∀ q v, u ≠ .frz q v) := by
  cases o
  · obtain ⟨xs, rfl, _⟩ := h
    exact ⟨fun ys e2 => (by cases e2), fun o u e2 => (by cases e2)⟩
  · obtain ⟨xs, rfl, _⟩ := h
    exact ⟨fun ys e2 => (by cases e2), fun o u e2 => (by cases e2)⟩
  · obtain ⟨dx, xs, rfl, _⟩ := h
    exact ⟨fun ys e2 => (by cases e2), fun o u e2 => (by cases e2)⟩
/-- no tuple stands at a place of the store -/
theorem Rel.nt (r : Rel K nm ι S H) {a : Addr} (h : a ∈ ι.st) : (∀ xs, H a ≠ some (.tup xs)) ∧ (∀ o u, H a ≠ some (.frz o u)) := by
  obtain ⟨i, hi, e⟩ := List.mem_iff_getElem.mp h
  have hs : i < S.length := by rw [← r.len]; exact hi
  obtain ⟨u, q, hu⟩ := r.ob i a S[i] (by rw [List.getElem?_eq_getElem hi, e]) (List.getElem?_eq_getElem hs)
  obtain ⟨h1, h2⟩ := hu.nt
  exact ⟨fun ys e2 => by (rw [q] at e2; exact h1 ys (Option.some.inj e2)), fun o v e2 => by (rw [q] at e2; exact h2 o v (Option.some.inj e2))⟩
theorem Rel.sqt (r : Rel K nm ι S H) (e : Ex' ι H ι' H') {a : Addr} {xs : List V} (h : SqT K H a xs) : SqT K H' a xs := by
  rcases h with (h | ⟨o, h⟩) | h
  · exact .inl (.inl (e.same h fun hm => (r.nt hm).1 _ h))
  · exact .inl (.inr ⟨o, (e.same h fun hm => (r.nt hm).2 _ _ h)⟩)
  · exact .inr h
theorem Rel.sqf (r : Rel K nm ι S H) (e : Ex' ι H ι' H') {a : Addr} {xs : List V} (h : SqF K H a xs) : SqF K H' a xs := by
  rcases h with ⟨o, h⟩ | h
  · exact .inl ⟨o, (e.same h fun hm => (r.nt hm).2 _ _ h)⟩
  · exact .inr h
theorem Rel.sqz (r : Rel K nm ι S H) (e : Ex' ι H ι' H') {a : Addr} {xs : List V} (h : SqZ K ι H a xs) : SqZ K ι' H' a xs := by
  obtain ⟨h1, h2⟩ := e.fzs a h.1
  exact ⟨h1, h2.trans h.2⟩
/-- what a change of places and heap has to keep -/
structure Io.Le (K : PySem.W.Frag) (m : Nat) (ι : Io) (H : Hp) (ι' : Io) (H' : Hp) : Prop where
  pl : ∀ (i : Nat) (a : Addr), i < m → ι.st[i]? = some a → ι'.st[i]? = some a
  tu : ∀ a xs, SqT K H a xs → SqT K H' a xs
  sf : ∀ a xs, SqF K H a xs → SqF K H' a xs
  fz : ∀ a ∈ ι.fz, a ∈ ι'.fz ∧ H' a = H a
theorem Io.Le.sqz {m : Nat} (q : Io.Le K m ι H ι' H') {a : Addr} {xs : List V} (h : SqZ K ι H a xs) : SqZ K ι' H' a xs := by
  obtain ⟨h1, h2⟩ := q.fz a h.1
  exact ⟨h1, h2.trans h.2⟩
mutual
theorem Rep.toM {m : Nat} (q : Io.Le K m ι H ι' H') : ∀ {d : D} {v : V}, closedD m d = true → Rep K nm ι H d v → Rep K nm ι' H' d v
  | .non, _, _, h => h
  | .bl _, _, _, h => h
  | .int _, _, _, h => h
  | .str _, _, _, h => h
  | .tup ds, _, c, h => by
    obtain ⟨a, xs, h1, h2, h3⟩ := h
    exact ⟨a, xs, h1, q.tu _ _ h2, Reps.toM q c h3⟩
  | .ref n, _, c, h => by
    obtain ⟨a, h1, h2⟩ := h
    exact ⟨a, q.pl _ _ (of_decide_eq_true c) h1, h2⟩
  | .gl _, _, _, h => h
  | .fro ds, _, c, h => by
    obtain ⟨a, xs, h1, h2, h3⟩ := h
    exact ⟨a, xs, h1, q.sqz h2, Reps.toM q c h3⟩
  | .frd ks ds, _, c, h => by
    obtain ⟨a, xs, h1, ⟨h2, h5⟩, h3, h4⟩ := h
    obtain ⟨g1, g2⟩ := q.fz a h2
    exact ⟨a, xs, h1, ⟨g1, g2.trans h5⟩, h3, Reps.toM q c h4⟩
  | .fri cc fs ds, _, c, h => by
    obtain ⟨a, dx, xs, h1, ⟨h2, h5⟩, h3, h4⟩ := h
    obtain ⟨g1, g2⟩ := q.fz a h2
    exact ⟨a, dx, xs, h1, ⟨g1, g2.trans h5⟩, h3, Reps.toM q c h4⟩
  | .scr ds, _, c, h => by
    obtain ⟨a, xs, h1, h2, h3⟩ := h
    exact ⟨a, xs, h1, q.sf _ _ h2, Reps.toM q c h3⟩
theorem Reps.toM {m : Nat} (q : Io.Le K m ι H ι' H') : ∀ {ds : List D} {xs : List V}, closedL m ds = true → Reps K nm ι H ds xs → Reps K nm ι' H' ds xs
  | [], _, _, h => h
  | d :: ds, _, c, h => by
    obtain ⟨v, w, h1, h2, h3⟩ := h
    obtain ⟨c1, c2⟩ := Bool.and_eq_true_iff.mp c
    exact ⟨v, w, h1, Rep.toM q c1 h2, Reps.toM q c2 h3⟩
end
mutual
/-- what stands for something leans only on places that are there -/
theorem Rep.closed : ∀ {d : D} {v : V}, Rep K nm ι H d v → closedD ι.st.length d = true
  | .non, _, _ => rfl
  | .bl _, _, _ => rfl
  | .int _, _, _ => rfl
  | .str _, _, _ => rfl
  | .gl _, _, _ => rfl
  | .tup ds, _, h => by
    obtain ⟨a, xs, h1, h2, h3⟩ := h
    exact Reps.closed h3
  | .ref n, _, h => by
    obtain ⟨a, h1, h2⟩ := h
    exact decide_eq_true (List.getElem?_eq_some_iff.mp h1).1
  | .fro ds, _, h => by
    obtain ⟨a, xs, h1, h2, h3⟩ := h
    exact Reps.closed h3
  | .frd ks ds, _, h => by
    obtain ⟨a, xs, h1, h2, h3, h4⟩ := h
    exact Reps.closed h4
  | .fri cc fs ds, _, h => by
    obtain ⟨a, dx, xs, h1, h2, h3, h4⟩ := h
    exact Reps.closed h4
  | .scr ds, _, h => by
    obtain ⟨a, xs, h1, h2, h3⟩ := h
    exact Reps.closed h3
theorem Reps.closed : ∀ {ds : List D} {xs : List V}, Reps K nm ι H ds xs → closedL ι.st.length ds = true
  | [], _, _ => rfl
  | d :: ds, _, h => by
    obtain ⟨v, w, h1, h2, h3⟩ := h
    exact Bool.and_eq_true_iff.mpr ⟨Rep.closed h2, Reps.closed h3⟩
end
theorem RepK.toM {κ : Type} {m : Nat} (q : Io.Le K m ι H ι' H') : ∀ {ds : List (κ × D)} {xs : List (κ × V)}, closedL m (ds.map (·.2)) = true → RepK K nm ι H ds xs → RepK K nm ι' H' ds xs
  | [], _, _, h => h
  | d :: ds, _, c, h => by
    obtain ⟨v, w, h1, h2, h3⟩ := h
    obtain ⟨c1, c2⟩ := Bool.and_eq_true_iff.mp c
    exact ⟨v, w, h1, Rep.toM q c1 h2, RepK.toM q c2 h3⟩
theorem RepK.closed {κ : Type} : ∀ {ds : List (κ × D)} {xs : List (κ × V)}, RepK K nm ι H ds xs → closedL ι.st.length (ds.map (·.2)) = true
  | [], _, _ => rfl
  | d :: ds, _, h => by
    obtain ⟨v, w, h1, h2, h3⟩ := h
    exact Bool.and_eq_true_iff.mpr ⟨Rep.closed h2, RepK.closed h3⟩
theorem ObU.toM {m : Nat} (q : Io.Le K m ι H ι' H') {o : Ob} {u : HO} (c : closedL m o.ds = true) (h : ObU K nm ι H o u) : ObU K nm ι' H' o u := by
  cases o
  · obtain ⟨xs, h1, h2⟩ := h
    exact ⟨xs, h1, Reps.toM q c h2⟩
  · obtain ⟨xs, h1, h2⟩ := h
    exact ⟨xs, h1, RepK.toM q c h2⟩
  · obtain ⟨dx, xs, h1, h2⟩ := h
    exact ⟨dx, xs, h1, RepK.toM q c h2⟩
theorem ObU.closed {o : Ob} {u : HO} (h : ObU K nm ι H o u) : closedL ι.st.length o.ds = true := by
  cases o
  · obtain ⟨xs, h1, h2⟩ := h
    exact h2.closed
  · obtain ⟨xs, h1, h2⟩ := h
    exact h2.closed
  · obtain ⟨dx, xs, h1, h2⟩ := h
    exact h2.closed
theorem Rel.le (r : Rel K nm ι S H) (e : Ex' ι H ι' H') : Io.Le K ι.st.length ι H ι' H' := ⟨fun _ _ _ q => e.at_ q, fun _ _ q => r.sqt e q, fun _ _ q => r.sqf e q, e.fzs⟩
theorem ObU.mono (r : Rel K nm ι S H) (e : Ex' ι H ι' H') {o : Ob} {u : HO} (h : ObU K nm ι H o u) : ObU K nm ι' H' o u := ObU.toM (r.le e) h.closed h
theorem Rep.mono (r : Rel K nm ι S H) (e : Ex' ι H ι' H') {d : D} {v : V} (h : Rep K nm ι H d v) : Rep K nm ι' H' d v := Rep.toM (r.le e) h.closed h
theorem Reps.mono (r : Rel K nm ι S H) (e : Ex' ι H ι' H') {ds : List D} {xs : List V} (h : Reps K nm ι H ds xs) : Reps K nm ι' H' ds xs := Reps.toM (r.le e) h.closed h
theorem RepK.mono {κ : Type} (r : Rel K nm ι S H) (e : Ex' ι H ι' H') {ds : List (κ × D)} {xs : List (κ × V)} (h : RepK K nm ι H ds xs) : RepK K nm ι' H' ds xs := RepK.toM (r.le e) h.closed h
theorem Reps.length : ∀ {ds : List D} {xs : List V}, Reps K nm ι H ds xs → xs.length = ds.length
  | [], _, h => by cases h; rfl
  | d :: ds, _, h => by
    obtain ⟨v, w, rfl, _, h3⟩ := h
    simp [Reps.length h3]
theorem Reps.get : ∀ {ds : List D} {xs : List V} {i : Nat} {d : D}, Reps K nm ι H ds xs → ds[i]? = some d → ∃ v, xs[i]? = some v ∧ Rep K nm ι H d v
  | [], _, _, _, _, h => by simp at h
  | d :: ds, _, 0, _, h, e => by
    obtain ⟨v, w, rfl, h2, _⟩ := h
    simp at e
    subst e
    exact ⟨v, rfl, h2⟩
  | d :: ds, _, i + 1, d2, h, e => by
    obtain ⟨v, w, rfl, _, h3⟩ := h
    obtain ⟨u, h4, h5⟩ := Reps.get h3 (i := i) (by simpa using e)
    exact ⟨u, by simpa using h4, h5⟩
theorem Reps.get' : ∀ {ds : List D} {xs : List V} {i : Nat} {v : V}, Reps K nm ι H ds xs → xs[i]? = some v → ∃ d, ds[i]? = some d ∧ Rep K nm ι H d v
  | [], _, _, _, h, e => by cases h; simp at e
  | d :: ds, _, 0, _, h, e => by
    obtain ⟨v, w, rfl, h2, _⟩ := h
    simp at e
    subst e
    exact ⟨d, rfl, h2⟩
  | d :: ds, _, i + 1, d2, h, e => by
    obtain ⟨v, w, rfl, _, h3⟩ := h
    obtain ⟨u, h4, h5⟩ := Reps.get' h3 (i := i) (by simpa using e)
    exact ⟨u, by simpa using h4, h5⟩
theorem Reps.append : ∀ {ds es : List D} {xs ys : List V}, Reps K nm ι H ds xs → Reps K nm ι H es ys → Reps K nm ι H (ds ++ es) (xs ++ ys)
  | [], _, _, _, h, g => by cases h; exact g
  | d :: ds, _, _, _, h, g => by
    obtain ⟨v, w, rfl, h2, h3⟩ := h
    exact ⟨v, w ++ _, rfl, h2, Reps.append h3 g⟩
theorem Reps.drop : ∀ {ds : List D} {xs : List V} (n : Nat), Reps K nm ι H ds xs → Reps K nm ι H (ds.drop n) (xs.drop n)
  | _, _, 0, h => h
  | [], _, _ + 1, h => by cases h; rfl
  | d :: ds, _, n + 1, h => by
    obtain ⟨v, w, rfl, _, h3⟩ := h
    exact Reps.drop n h3
theorem Reps.take : ∀ {ds : List D} {xs : List V} (n : Nat), Reps K nm ι H ds xs → Reps K nm ι H (ds.take n) (xs.take n)
  | _, _, 0, h => rfl
  | [], _, _ + 1, h => by cases h; rfl
  | d :: ds, _, n + 1, h => by
    obtain ⟨v, w, rfl, h2, h3⟩ := h
    exact ⟨v, _, rfl, h2, Reps.take n h3⟩
theorem Reps.set : ∀ {ds : List D} {xs : List V} {d : D} {v : V} (n : Nat), Reps K nm ι H ds xs → Rep K nm ι H d v → Reps K nm ι H (ds.set n d) (xs.set n v)
  | [], _, _, _, _, h, _ => by cases h; rfl
  | d :: ds, _, _, _, 0, h, r => by
    obtain ⟨v, w, rfl, h2, h3⟩ := h
    exact ⟨_, _, rfl, r, h3⟩
  | d :: ds, _, _, _, n + 1, h, r => by
    obtain ⟨v, w, rfl, h2, h3⟩ := h
    exact ⟨v, _, rfl, h2, Reps.set n h3 r⟩
theorem Rel.get (r : Rel K nm ι S H) {n : Nat} {o : Ob} (h : S[n]? = some o) : ∃ a u, ι.st[n]? = some a ∧ H a = some u ∧ ObU K nm ι H o u := by
  have hl : n < S.length := (List.getElem?_eq_some_iff.mp h).1
  have hi : n < ι.st.length := by rw [r.len]; exact hl
  obtain ⟨u, h1, h2⟩ := r.ob n ι.st[n] _ (List.getElem?_eq_getElem hi) h
  exact ⟨ι.st[n], u, List.getElem?_eq_getElem hi, h1, h2⟩
theorem Rel.lst (r : Rel K nm ι S H) {n : Nat} {ds : List D} (h : S[n]? = some (.lst ds)) : ∃ a xs, ι.st[n]? = some a ∧ H a = some (.lst xs) ∧ Reps K nm ι H ds xs := by
  obtain ⟨a, u, h1, h2, xs, rfl, h3⟩ := r.get h
  exact ⟨a, xs, h1, h2, h3⟩
theorem Rel.refO (r : Rel K nm ι S H) {n : Nat} {o : Ob} {v : V} (h : S[n]? = some o) (hv : Rep K nm ι H (.ref n) v) : ∃ a u, v = .ref a ∧ ι.st[n]? = some a ∧ H a = some u ∧ ObU K nm ι H o u := by
  obtain ⟨a, u, h1, h2, h3⟩ := r.get h
  obtain ⟨b, h4, h5⟩ := hv
  rw [h1] at h4
  cases h4
  exact ⟨a, u, h5, h1, h2, h3⟩
theorem Rel.ref (r : Rel K nm ι S H) {n : Nat} {ds : List D} {v : V} (h : S[n]? = some (.lst ds)) (hv : Rep K nm ι H (.ref n) v) : ∃ a xs, v = .ref a ∧ ι.st[n]? = some a ∧ H a = some (.lst xs) ∧ Reps K nm ι H ds xs := by
  obtain ⟨a, u, h1, h2, h3, xs, rfl, h4⟩ := r.refO h hv
  exact ⟨a, xs, h1, h2, h3, h4⟩
/-- an object is laid beside the store -/
theorem Ex'.side {p : Addr} {o : HO} (hp : H p = none) (hi : p ∉ ι) : Ex' ι H ι (upd H p o) := ⟨⟨[], by simp⟩, fun b hb => ⟨hb, upd_ne fun (q : b = p) => (Io.nmem.mp hi).2 (by rw [← q]; exact hb)⟩, fun b u h n => ⟨by rw [upd_ne (ne_of_none h hp)]; exact h, n⟩⟩
theorem Rel.free (r : Rel K nm ι S H) {p : Addr} (hp : H p = none) : p ∉ ι := by
  refine Io.nmem.mpr ⟨fun h => ?_, fun h => r.tr p h hp⟩
  obtain ⟨i, hi, e⟩ := List.mem_iff_getElem.mp h
  have hs : i < S.length := by rw [← r.len]; exact hi
  obtain ⟨u, q, _⟩ := r.ob i p S[i] (by rw [List.getElem?_eq_getElem hi, e]) (List.getElem?_eq_getElem hs)
  rw [hp] at q
  cases q
theorem Rel.side' (r : Rel K nm ι S H) {p : Addr} {o : HO} (hp : H p = none) : Rel K nm ι S (upd H p o) := by
  have hf := r.free hp
  have e : Ex' ι H ι (upd H p o) := Ex'.side hp hf
  refine ⟨r.len, r.nd, r.dj, fun a ha => ?_, fun i a u h1 h2 => ?_⟩
  · rw [(e.fzs a ha).2]
    exact r.tr a ha
  · obtain ⟨v, q1, q2⟩ := r.ob i a u h1 h2
    exact ⟨v, by rw [upd_ne (ne_of_none q1 hp)]; exact q1, q2.mono r e⟩
theorem Rel.side (r : Rel K nm ι S H) {p : Addr} {o : HO} (hp : H p = none) : Rel K nm ι S (upd H p o) ∧ Ex' ι H ι (upd H p o) := ⟨r.side' hp, Ex'.side hp (r.free hp)⟩
theorem Io.le_add {p : Addr} {m : Nat} : Io.Le K m ι H (ι.add p) H := ⟨fun i a _ h => by
    have hl : i < ι.st.length := (List.getElem?_eq_some_iff.mp h).1
    show (ι.st ++ [p])[i]? = _
    rw [List.getElem?_append_left hl]
    exact h, fun _ _ z => z, fun _ _ z => z, fun _ z => ⟨z, rfl⟩⟩
theorem Io.le_frz {p : Addr} {m : Nat} : Io.Le K m ι H (ι.frz p) H := ⟨fun i a _ h => h, fun _ _ z => z, fun _ _ z => z, fun _ z => ⟨List.mem_cons_of_mem _ z, rfl⟩⟩
/-- what stands beside the store is taken into it -/
theorem Rel.takeO (r : Rel K nm ι S H) {p : Addr} {u : HO} {ob : Ob} (hp : H p = some u) (hi : p ∉ ι) (hx : ObU K nm ι H ob u) (H0 : Hp) (ι0 : Io) (e0 : Ex' ι0 H0 ι H) (hn : H0 p = none) :
    Rel K nm (ι.add p) (S ++ [ob]) H ∧ Ex' ι0 H0 (ι.add p) H := by
  obtain ⟨hi1, hi2⟩ := Io.nmem.mp hi
  have e1 : Ex' ι0 H0 (ι.add p) H := by
    obtain ⟨t, et⟩ := e0.pre
    refine ⟨⟨t ++ [p], by show ι.st ++ [p] = _; rw [et]; simp⟩, fun b hb => e0.fzs b hb, fun b o h n => ?_⟩
    obtain ⟨h1, n1⟩ := e0.keep b o h n
    obtain ⟨n2, n3⟩ := Io.nmem.mp n1
    refine ⟨h1, Io.nmem.mpr ⟨fun hm => ?_, n3⟩⟩
    rcases List.mem_append.mp hm with hm | hm
    · exact n2 hm
    · have eb : b = p := by simpa using hm
      rw [eb, hn] at h
      cases h
  refine ⟨⟨by show (ι.st ++ [p]).length = _; simp [r.len], ?_, fun a ha hm => ?_, r.tr, fun i a o h1 h2 => ?_⟩, e1⟩
  · show (ι.st ++ [p]).Nodup
    rw [List.nodup_append]
    refine ⟨r.nd, by simp, fun a ha b hb => ?_⟩
    have eb : b = p := by simpa using hb
    rw [eb]
    exact fun q => hi1 (by rw [← q]; exact ha)
  · rcases List.mem_append.mp hm with hm | hm
    · exact r.dj a ha hm
    · have eb : a = p := by simpa using hm
      rw [eb] at ha
      exact hi2 ha
  · replace h1 : (ι.st ++ [p])[i]? = some a := h1
    by_cases hl : i < ι.st.length
    · rw [List.getElem?_append_left hl] at h1
      have hs : i < S.length := by rw [← r.len]; exact hl
      rw [List.getElem?_append_left hs] at h2
      obtain ⟨v, q1, q2⟩ := r.ob i a o h1 h2
      exact ⟨v, q1, q2.toM Io.le_add q2.closed⟩
    · have hs : ¬ i < S.length := by rw [← r.len]; exact hl
      rw [List.getElem?_append_right (by omega)] at h1
      rw [List.getElem?_append_right (by omega)] at h2
      have z1 : i - ι.st.length = 0 := by
        have := (List.getElem?_eq_some_iff.mp h1).1
        simp at this
        omega
      have z2 : i - S.length = 0 := by rw [← r.len]; exact z1
      rw [z1] at h1
      rw [z2] at h2
      have ea : p = a := by simpa using h1
      have eo : ob = o := by simpa using h2
      subst ea eo
      exact ⟨u, hp, hx.toM Io.le_add hx.closed⟩
theorem Rel.take (r : Rel K nm ι S H) {p : Addr} {xs : List V} {ds : List D} (hp : H p = some (.lst xs)) (hi : p ∉ ι) (hx : Reps K nm ι H ds xs) (H0 : Hp) (ι0 : Io) (e0 : Ex' ι0 H0 ι H) (hn : H0 p = none) :
    Rel K nm (ι.add p) (S ++ [.lst ds]) H ∧ Ex' ι0 H0 (ι.add p) H := r.takeO (ob := .lst ds) hp hi ⟨xs, rfl, hx⟩ H0 ι0 e0 hn
/-- what stands beside the store is frozen -/
theorem Rel.frzO (r : Rel K nm ι S H) {p : Addr} {u : HO} (hp : H p = some u) (hi : p ∉ ι) (H0 : Hp) (ι0 : Io) (e0 : Ex' ι0 H0 ι H) (hn : H0 p = none) :
    Rel K nm (ι.frz p) S H ∧ Ex' ι0 H0 (ι.frz p) H := by
  obtain ⟨hi1, hi2⟩ := Io.nmem.mp hi
  refine ⟨⟨r.len, r.nd, fun a ha => ?_, fun a ha => ?_, fun i a o h1 h2 => ?_⟩, e0.pre, fun b hb => ⟨List.mem_cons_of_mem _ (e0.fzs b hb).1, (e0.fzs b hb).2⟩, fun b o h n => ?_⟩
  · rcases List.mem_cons.mp ha with rfl | ha
    · exact hi1
    · exact r.dj a ha
  · rcases List.mem_cons.mp ha with rfl | ha
    · rw [hp]
      exact fun z => nomatch z
    · exact r.tr a ha
  · obtain ⟨v, q1, q2⟩ := r.ob i a o h1 h2
    exact ⟨v, q1, q2.toM Io.le_frz q2.closed⟩
  · obtain ⟨h1, n1⟩ := e0.keep b o h n
    obtain ⟨n2, n3⟩ := Io.nmem.mp n1
    refine ⟨h1, Io.nmem.mpr ⟨n2, fun hm => ?_⟩⟩
    rcases List.mem_cons.mp hm with rfl | hm
    · rw [hn] at h
      cases h
    · exact n3 hm
/-- new, and taken into the store at once -/
theorem Rel.newO (r : Rel K nm ι S H) {p : Addr} {u : HO} {ob : Ob} (hp : H p = none) (hx : ObU K nm ι H ob u) :
    Rel K nm (ι.add p) (S ++ [ob]) (upd H p u) ∧ Ex' ι H (ι.add p) (upd H p u) := by
  obtain ⟨r1, e1⟩ := r.side (o := u) hp
  exact r1.takeO upd_same (r.free hp) (hx.mono r e1) H ι e1 hp
theorem Rel.new (r : Rel K nm ι S H) {p : Addr} {xs : List V} {ds : List D} (hp : H p = none) (hx : Reps K nm ι H ds xs) :
    Rel K nm (ι.add p) (S ++ [.lst ds]) (upd H p (.lst xs)) ∧ Ex' ι H (ι.add p) (upd H p (.lst xs)) := r.newO (ob := .lst ds) hp ⟨xs, rfl, hx⟩
/-- new, and frozen at once -/
theorem Rel.newF (r : Rel K nm ι S H) {p : Addr} {xs : List V} {ds : List D} (hp : H p = none) (hx : Reps K nm ι H ds xs) :
    Rel K nm (ι.frz p) S (upd H p (.lst xs)) ∧ Ex' ι H (ι.frz p) (upd H p (.lst xs)) := by
  obtain ⟨r1, e1⟩ := r.side (o := .lst xs) hp
  exact r1.frzO upd_same (r.free hp) H ι e1 hp
theorem Reps.froz {p : Addr} {xs : List V} {ds : List D} (h : Reps K nm ι H ds xs) (r : Rel K nm ι S H) (hp : H p = none) : Rep K nm (ι.frz p) (upd H p (.lst xs)) (.fro ds) (.ref p) :=
  ⟨p, xs, rfl, ⟨List.mem_cons_self .., upd_same⟩, h.mono r (r.newF hp h).2⟩
theorem Rel.last (r : Rel K nm ι S H) {p : Addr} : (ι.add p).st[S.length]? = some p := by
  show (ι.st ++ [p])[S.length]? = _
  rw [← r.len]
  simp
/-- a thing of the store is changed -/
theorem Rel.putO (r : Rel K nm ι S H) {n : Nat} {a : Addr} {u : HO} {o1 o2 : Ob} (hn : ι.st[n]? = some a) (hs : S[n]? = some o1) (hx : ObU K nm ι H o2 u) :
    Rel K nm ι (S.set n o2) (upd H a u) ∧ Ex' ι H ι (upd H a u) := by
  have hm : a ∈ ι.st := List.mem_of_getElem? hn
  have e1 : Ex' ι H ι (upd H a u) := ⟨⟨[], by simp⟩, fun b hb => ⟨hb, upd_ne fun (q : b = a) => r.dj b hb (by rw [q]; exact hm)⟩, fun b o h hb => ⟨by (rw [upd_ne (fun (q : b = a) => (Io.nmem.mp hb).1 (by rw [q]; exact hm))]; exact h), hb⟩⟩
  refine ⟨⟨by simp [r.len], r.nd, r.dj, fun b hb => by rw [(e1.fzs b hb).2]; exact r.tr b hb, fun i b o h1 h2 => ?_⟩, e1⟩
  by_cases hi : i = n
  · subst hi
    rw [hn] at h1
    cases h1
    have hl : i < S.length := (List.getElem?_eq_some_iff.mp hs).1
    rw [List.getElem?_set_self hl] at h2
    cases h2
    exact ⟨u, upd_same, hx.mono r e1⟩
  · rw [List.getElem?_set_ne (Ne.symm hi)] at h2
    obtain ⟨v, q1, q2⟩ := r.ob i b o h1 h2
    have hb : b ≠ a := fun q => by
      subst q
      have h1' := List.getElem?_eq_some_iff.mp h1
      have h2' := List.getElem?_eq_some_iff.mp hn
      obtain ⟨l1, g1⟩ := h1'
      obtain ⟨l2, g2⟩ := h2'
      exact hi ((List.getElem_inj r.nd).mp (g1.trans g2.symm))
    exact ⟨v, by rw [upd_ne hb]; exact q1, q2.mono r e1⟩
theorem Rel.put (r : Rel K nm ι S H) {n : Nat} {a : Addr} {xs ys : List V} {ds es : List D} (hn : ι.st[n]? = some a) (hs : S[n]? = some (.lst ds)) (hx : Reps K nm ι H es ys) :
    Rel K nm ι (S.set n (.lst es)) (upd H a (.lst ys)) ∧ Ex' ι H ι (upd H a (.lst ys)) := r.putO (o2 := .lst es) hn hs ⟨ys, rfl, hx⟩
end
end Pl

set_option maxHeartbeats 1000000
/-! The operations on values are what the model's are. -/
namespace Pl
open PySem L2

def Wg {α : Type} (r : R α) (P : α → Sto → Prop) (XW : Xc → Sto → Prop) : Prop := match r with
  | .ok a S => P a S
  | .exc x S => XW x S
  | .bad => False
theorem Wg.bind {α β : Type} {r : R α} {f : α → Sto → R β} {P : β → Sto → Prop} {XW : Xc → Sto → Prop} (h : Wg (r.bind f) P XW) : Wg r (fun a S => Wg (f a S) P XW) XW := by
  cases r <;> exact h
theorem Wg.mono {α : Type} {r : R α} {P P' : α → Sto → Prop} {XW : Xc → Sto → Prop} (h : Wg r P XW) (k : ∀ a S, P a S → P' a S) : Wg r P' XW := by
  cases r with
  | ok a S => exact k a S h
  | exc x S => exact h
  | bad => exact h
def NoX : Xc → Sto → Prop := fun _ _ => False
section
variable (K : PySem.W.Frag) (nm : Nat → Addr)
/-- what is wanted of a value's end -/
def Wv (ι : Io) (H : Hp) (Q : VK) (d : D) (S' : Sto) : Prop := ∀ v ι' H', Rel K nm ι' S' H' → Ex' ι H ι' H' → Rep K nm ι' H' d v → Q v H'
/-- a two-place operation on values -/
def rOf (op : D → D → Sto → R D) : R2 := fun x y H Q => ∃ ι S d e, Rel K nm ι S H ∧ Rep K nm ι H d x ∧ Rep K nm ι H e y ∧ Wg (op d e S) (Wv K nm ι H Q) NoX
end
def strOf (x : List Nat) : Str := ⟨x.toArray⟩
theorem strOf_len (x : List Nat) : (strOf x).length = x.length := by simp [strOf, Str.length]
theorem strOf_list (x : List Nat) : (strOf x).cps.toList = x := by simp [strOf]
theorem strOf_app (x y : List Nat) : strOf x ++ strOf y = strOf (x ++ y) := by
  show Str.append (strOf x) (strOf y) = strOf (x ++ y)
  simp [strOf, Str.append]
theorem strOf_inj {x y : List Nat} : (strOf x = strOf y) ↔ x = y := by
  constructor
  · intro h
    have := congrArg (fun s : Str => s.cps.toList) h
    simpa [strOf] using this
  · rintro rfl
    rfl
theorem lim_le {n : Nat} (h : n ≤ lim) : n ≤ sizeLine := Nat.le_trans h (by decide)
section
variable {X : Cx} {nm : Nat → Addr}
theorem os_add : OpR X (binaryOp .Add) (rOf X.K nm (binV .add)) := by
  intro pins s σ H x y u v Q I rx ry h
  obtain ⟨ι, S, d, e, rel, hx, hy, w⟩ := h
  cases d <;> cases e <;> first
    | exact False.elim w
    | skip
  case int.int i j =>
    cases hx; cases hy
    exact op_add pins s σ H _ _ u v Q I rx ry ⟨i, j, rfl, rfl, w _ ι H rel .refl rfl⟩
  case str.str i j =>
    cases hx; cases hy
    simp only [binV] at w
    split at w
    · rename_i hl
      refine op_add_str pins s σ H _ _ u v Q I rx ry ⟨strOf i, strOf j, rfl, rfl, ?_, w _ ι H rel .refl ?_⟩
      · rw [strOf_len, strOf_len]
        exact lim_le hl
      · rw [strOf_app]
        rfl
    · exact w.elim
  case tup.tup i j =>
    obtain ⟨a, xs, rfl, ha, hxs⟩ := hx
    obtain ⟨b, ys, rfl, hb, hys⟩ := hy
    simp only [binV] at w
    split at w
    · rename_i hl
      refine op_catA pins s σ H _ _ u v Q I rx ry ⟨a, b, xs, ys, rfl, rfl, ha, hb, ?_, fun e => ?_, fun _ e => ?_, fun _ _ p hp => ?_⟩
      · rw [hxs.length, hys.length]
        exact lim_le hl
      · refine w _ ι H rel .refl ⟨b, ys, rfl, hb, ?_⟩
        have := hxs.length
        rw [e] at this
        have e2 : i = [] := List.eq_nil_of_length_eq_zero this.symm
        rw [e2]
        exact hys
      · refine w _ ι H rel .refl ⟨a, xs, rfl, ha, ?_⟩
        have := hys.length
        rw [e] at this
        have e2 : j = [] := List.eq_nil_of_length_eq_zero this.symm
        rw [e2, List.append_nil]
        exact hxs
      · obtain ⟨r1, e1⟩ := rel.side (o := .tup (xs ++ ys)) hp
        exact w _ ι _ r1 e1 ⟨p, _, rfl, SqT.of upd_same, (hxs.append hys).mono rel e1⟩
    · exact w.elim
  case ref.ref i j =>
    simp only [binV] at w
    split at w
    · rename_i h1 h2
      obtain ⟨a, xs, rfl, _, ha, hxs⟩ := rel.ref h1 hx
      obtain ⟨b, ys, rfl, _, hb, hys⟩ := rel.ref h2 hy
      split at w
      · rename_i hl
        refine op_cat pins s σ H _ _ u v Q I rx ry ⟨a, b, xs, ys, rfl, rfl, ha, hb, ?_, fun p hp => ?_⟩
        · rw [hxs.length, hys.length]
          exact lim_le hl
        · obtain ⟨r1, e1⟩ := rel.new hp (hxs.append hys)
          exact w _ _ _ r1 e1 ⟨p, rel.last, rfl⟩
      · exact w.elim
    · exact w.elim
  case fro.fro i j =>
    obtain ⟨a, xs, rfl, ha, hxs⟩ := hx
    obtain ⟨b, ys, rfl, hb, hys⟩ := hy
    simp only [binV] at w
    split at w
    · rename_i hl
      refine op_cat pins s σ H _ _ u v Q I rx ry ⟨a, b, xs, ys, rfl, rfl, ha.2, hb.2, ?_, fun p hp => ?_⟩
      · rw [hxs.length, hys.length]
        exact lim_le hl
      · obtain ⟨r1, e1⟩ := rel.newF hp (hxs.append hys)
        exact w _ _ _ r1 e1 ((hxs.append hys).froz rel hp)
    · exact w.elim
  case fro.ref i j =>
    obtain ⟨a, xs, rfl, ha, hxs⟩ := hx
    simp only [binV] at w
    split at w
    · rename_i ds hds
      obtain ⟨b, ys, rfl, _, hb, hys⟩ := rel.ref hds hy
      split at w
      · rename_i hl
        refine op_cat pins s σ H _ _ u v Q I rx ry ⟨a, b, xs, ys, rfl, rfl, ha.2, hb, ?_, fun p hp => ?_⟩
        · rw [hxs.length, hys.length]
          exact lim_le hl
        · obtain ⟨r1, e1⟩ := rel.newF hp (hxs.append hys)
          exact w _ _ _ r1 e1 ((hxs.append hys).froz rel hp)
      · exact w.elim
    · exact w.elim
  case ref.fro i j =>
    obtain ⟨b, ys, rfl, hb, hys⟩ := hy
    simp only [binV] at w
    split at w
    · rename_i ds hds
      obtain ⟨a, xs, rfl, _, ha, hxs⟩ := rel.ref hds hx
      split at w
      · rename_i hl
        refine op_cat pins s σ H _ _ u v Q I rx ry ⟨a, b, xs, ys, rfl, rfl, ha, hb.2, ?_, fun p hp => ?_⟩
        · rw [hxs.length, hys.length]
          exact lim_le hl
        · obtain ⟨r1, e1⟩ := rel.newF hp (hxs.append hys)
          exact w _ _ _ r1 e1 ((hxs.append hys).froz rel hp)
      · exact w.elim
    · exact w.elim
theorem os_sub : OpR X (binaryOp .Sub) (rOf X.K nm (binV .sub)) := by
  intro pins s σ H x y u v Q I rx ry h
  obtain ⟨ι, S, d, e, rel, hx, hy, w⟩ := h
  cases d <;> cases e <;> first
    | exact False.elim w
    | skip
  case int.int i j =>
    cases hx; cases hy
    exact op_sub pins s σ H _ _ u v Q I rx ry ⟨i, j, rfl, rfl, w _ ι H rel .refl rfl⟩
theorem Reps.rep {K : PySem.W.Frag} {ι : Io} {H : Hp} {ds : List D} {xs : List V} (h : Reps K nm ι H ds xs) : ∀ n : Nat, Reps K nm ι H (List.replicate n ds).flatten (List.replicate n xs).flatten
  | 0 => rfl
  | n + 1 => by
    rw [List.replicate_succ, List.replicate_succ, List.flatten_cons, List.flatten_cons]
    exact h.append (h.rep n)
theorem os_mul : OpR X (binaryOp .Mult) (rOf X.K nm (binV .mul)) := by
  intro pins s σ H x y u v Q I rx ry h
  obtain ⟨ι, S, d, e, rel, hx, hy, w⟩ := h
  cases d <;> cases e <;> first
    | exact False.elim w
    | skip
  case int.int i j =>
    cases hx; cases hy
    simp only [binV] at w
    split at w
    · rename_i hl
      exact op_mul pins s σ H _ _ u v Q I rx ry ⟨i, j, rfl, rfl, .inr (by omega), w _ ι H rel .refl rfl⟩
    · exact w.elim
  case fro.int ds k =>
    obtain ⟨a, xs, rfl, ha, hxs⟩ := hx
    cases hy
    simp only [binV] at w
    split at w
    · rename_i hl
      refine op_rep pins s σ H _ _ u v Q I rx ry ⟨a, k, xs, rfl, rfl, ha.2, by omega, by omega, ?_, fun p hp => ?_⟩
      · rw [hxs.length]
        exact lim_le hl.1
      · obtain ⟨r1, e1⟩ := rel.newF hp (hxs.rep k.toNat)
        exact w _ _ _ r1 e1 ((hxs.rep k.toNat).froz rel hp)
    · exact w.elim
  case str.int z k =>
    cases hx; cases hy
    simp only [binV] at w
    split at w
    · rename_i hl
      refine op_repS pins s σ H _ _ u v Q I rx ry ⟨strOf z, k, rfl, rfl, hl.1, hl.2.1, by rw [strOf_len]; exact hl.2.2, w _ ι H rel .refl ?_⟩
      rw [strOf_list]
      rfl
    · exact w.elim
  case tup.int ds k =>
    obtain ⟨a, xs, rfl, ha, hxs⟩ := hx
    cases hy
    simp only [binV] at w
    split at w
    · rename_i hl
      exact op_rep1 pins s σ H _ _ u v Q I rx ry ⟨a, k, xs, rfl, rfl, ha, .inl ⟨hl, w _ ι H rel .refl ⟨a, xs, rfl, ha, hxs⟩⟩⟩
    · split at w
      · rename_i hl
        refine op_rep1 pins s σ H _ _ u v Q I rx ry ⟨a, k, xs, rfl, rfl, ha, .inr ⟨hl, fun e => ?_, fun p hp => ?_⟩⟩
        · subst e
          exact w _ ι H rel .refl ⟨a, [], rfl, ha, rfl⟩
        · obtain ⟨r1, e1⟩ := rel.side (o := .tup []) hp
          exact w _ ι _ r1 e1 ⟨p, [], rfl, SqT.of upd_same, rfl⟩
      · exact w.elim
theorem os_fdiv : OpR X (binaryOp .FloorDiv) (rOf X.K nm (binV .fdiv)) := by
  intro pins s σ H x y u v Q I rx ry h
  obtain ⟨ι, S, d, e, rel, hx, hy, w⟩ := h
  cases d <;> cases e <;> first
    | exact False.elim w
    | skip
  case int.int i j =>
    cases hx; cases hy
    simp only [binV] at w
    split at w
    · rename_i hl
      exact op_fdiv pins s σ H _ _ u v Q I rx ry ⟨i, j, rfl, rfl, ⟨hl.1, hl.2⟩, w _ ι H rel .refl rfl⟩
    · exact w.elim
theorem os_mod : OpR X (binaryOp .Mod) (rOf X.K nm (binV .mod)) := by
  intro pins s σ H x y u v Q I rx ry h
  obtain ⟨ι, S, d, e, rel, hx, hy, w⟩ := h
  cases d <;> cases e <;> first
    | exact False.elim w
    | skip
  case int.int i j =>
    cases hx; cases hy
    simp only [binV] at w
    split at w
    · rename_i hl
      exact op_mod pins s σ H _ _ u v Q I rx ry ⟨i, j, rfl, rfl, hl, w _ ι H rel .refl rfl⟩
    · exact w.elim
theorem os_pow : OpR X (binaryOp .Pow) (rOf X.K nm (binV .pow)) := by
  intro pins s σ H x y u v Q I rx ry h
  obtain ⟨ι, S, d, e, rel, hx, hy, w⟩ := h
  cases d <;> cases e <;> first
    | exact False.elim w
    | skip
  case int.int i j =>
    cases hx; cases hy
    simp only [binV] at w
    split at w
    · rename_i hl
      exact op_pow pins s σ H _ _ u v Q I rx ry ⟨i, j, rfl, rfl, ⟨hl.1, by omega, by omega⟩, w _ ι H rel .refl rfl⟩
    · exact w.elim
def BOp.op : BOp → Operator
  | .add => .Add | .sub => .Sub | .mul => .Mult | .fdiv => .FloorDiv | .mod => .Mod | .pow => .Pow
theorem os_bin (op : BOp) : OpR X (binaryOp op.op) (rOf X.K nm (binV op)) := by
  cases op
  · exact os_add
  · exact os_sub
  · exact os_mul
  · exact os_fdiv
  · exact os_mod
  · exact os_pow
/-! ### data -/
theorem pdR_Dp {K : PySem.W.Frag} {ι : Io} {S : Sto} {H : Hp} (rel : Rel K nm ι S H) (g : Nat → Option PyData) (hg : ∀ n x v, g n = some x → Rep K nm ι H (.ref n) v → Dp K H v x) :
    (∀ (d : D) (x : PyData) (v : V), pdR g d = some x → Rep K nm ι H d v → Dp K H v x) := by
  intro d
  apply D.rec (motive_1 := fun d => ∀ (x : PyData) (v : V), pdR g d = some x → Rep K nm ι H d v → Dp K H v x)
    (motive_2 := fun ds => ∀ (xs : List PyData) (vs : List V), pdRs g ds = some xs → Reps K nm ι H ds vs → DpAll K H vs xs)
  · intro x v e r; cases e; cases r; exact .non
  · intro b x v e r; cases e; cases r; exact .bl b
  · intro i x v e r; cases e; cases r; exact .int i
  · intro i x v e r; cases e; cases r; exact .str _
  · intro ds ih x v e r
    obtain ⟨a, xs, rfl, h1, h2⟩ := r
    simp only [pdR, Option.map_eq_some_iff] at e
    obtain ⟨ys, h3, rfl⟩ := e
    exact .tup h1 (ih _ _ h3 h2)
  · intro n x v e r
    exact hg n x v e r
  · intro n x v e r; cases e
  · intro ds ih x v e r
    obtain ⟨a, xs, rfl, h1, h2⟩ := r
    simp only [pdR, Option.map_eq_some_iff] at e
    obtain ⟨ys, h3, rfl⟩ := e
    exact .lst h1.l (ih _ _ h3 h2)
  · intro ks ds ih x v e r; cases e
  · intro c fs ds ih x v e r; cases e
  · intro ds ih x v e r; cases e
  · intro xs vs e r; cases e; cases r; exact .nil
  · intro d ds ih1 ih2 xs vs e r
    obtain ⟨v, w, rfl, h1, h2⟩ := r
    simp only [pdRs] at e
    split at e
    · rename_i x ys h3 h4
      cases e
      exact .cons (ih1 _ _ h3 h1) (ih2 _ _ h4 h2)
    · cases e
theorem pdRs_Dp {K : PySem.W.Frag} {ι : Io} {S : Sto} {H : Hp} (rel : Rel K nm ι S H) (g : Nat → Option PyData) (hg : ∀ n x v, g n = some x → Rep K nm ι H (.ref n) v → Dp K H v x) :
    ∀ (ds : List D) (xs : List PyData) (vs : List V), pdRs g ds = some xs → Reps K nm ι H ds vs → DpAll K H vs xs
  | [], xs, vs, e, r => by cases e; cases r; exact .nil
  | d :: ds, xs, vs, e, r => by
    obtain ⟨v, w, rfl, h1, h2⟩ := r
    simp only [pdRs] at e
    split at e
    · rename_i x ys h3 h4
      cases e
      exact .cons (pdR_Dp rel g hg d _ _ h3 h1) (pdRs_Dp rel g hg ds _ _ h4 h2)
    · cases e
theorem pdN_Dp {K : PySem.W.Frag} {ι : Io} {S : Sto} {H : Hp} (rel : Rel K nm ι S H) : ∀ (k n : Nat) (x : PyData) (v : V), pdN S k n = some x → Rep K nm ι H (.ref n) v → Dp K H v x
  | 0, n, x, v, e, r => by cases e
  | k + 1, n, x, v, e, r => by
    simp only [pdN] at e
    split at e
    · rename_i ds hs
      simp only [Option.map_eq_some_iff] at e
      obtain ⟨ys, h3, rfl⟩ := e
      obtain ⟨a, xs, rfl, _, ha, hx⟩ := rel.ref hs r
      exact .lst (SqL.of ha) (pdRs_Dp rel _ (fun n x v => pdN_Dp rel k n x v) ds _ _ h3 hx)
    · cases e
theorem pd_Dp {K : PySem.W.Frag} {ι : Io} {S : Sto} {H : Hp} (rel : Rel K nm ι S H) {d : D} {x : PyData} {v : V} (e : pd S d = some x) (r : Rep K nm ι H d v) : Dp K H v x :=
  pdR_Dp rel _ (fun n x v => pdN_Dp rel 4 n x v) d x v e r
theorem scal_ok {K : PySem.W.Frag} {ι : Io} {H : Hp} {d e : D} {x y : V} {r : Bool} (h : scalE d e = some r) (hx : Rep K nm ι H d x) (hy : Rep K nm ι H e y) : scal x y = true ∧ decide (x = y) = r := by
  cases d <;> cases e <;> simp only [scalE] at h <;> first
    | (cases h; done)
    | (cases hx; cases hy; have e := Option.some.inj h; subst e; refine ⟨rfl, ?_⟩; first | rfl | (rw [Bool.eq_iff_iff]; simp) | skip)
  all_goals (rw [Bool.eq_iff_iff]; simp)
theorem os_eq (hr : X.A.units + 64 < cLine) : OpR X (compareOp .Eq) (rOf X.K nm (cmpV .eq)) := by
  intro pins s σ H x y u v Q I rx ry h
  obtain ⟨ι, S, d, e, rel, hx, hy, w⟩ := h
  simp only [cmpV, eqV] at w
  split at w
  · rename_i r hr
    obtain ⟨h1, h2⟩ := scal_ok hr hx hy
    refine op_eq pins s σ H _ _ u v Q I rx ry ⟨h1, ?_⟩
    rw [h2]
    exact w _ ι H rel .refl (by rw [Bool.xor_false] <;> rfl)
  · split at w
    · rename_i p q h1 h2
      split at w
      · rename_i hs
        obtain ⟨s1, s2⟩ := Bool.and_eq_true_iff.mp hs
        refine op_eqD hr pins s σ H _ _ u v Q I rx ry ⟨p, q, pd_Dp rel h1 hx, pd_Dp rel h2 hy, s1, s2, ?_⟩
        exact w _ ι H rel .refl (by rw [Bool.xor_false] <;> rfl)
      · exact w.elim
    · exact w.elim
theorem os_ne (hr : X.A.units + 64 < cLine) : OpR X (compareOp .NotEq) (rOf X.K nm (cmpV .ne)) := by
  intro pins s σ H x y u v Q I rx ry h
  obtain ⟨ι, S, d, e, rel, hx, hy, w⟩ := h
  simp only [cmpV, eqV] at w
  split at w
  · rename_i r hr
    obtain ⟨h1, h2⟩ := scal_ok hr hx hy
    refine op_ne pins s σ H _ _ u v Q I rx ry ⟨h1, ?_⟩
    rw [h2]
    exact w _ ι H rel .refl (by rw [Bool.xor_true] <;> rfl)
  · split at w
    · rename_i p q h1 h2
      split at w
      · rename_i hs
        obtain ⟨s1, s2⟩ := Bool.and_eq_true_iff.mp hs
        refine op_neD hr pins s σ H _ _ u v Q I rx ry ⟨p, q, pd_Dp rel h1 hx, pd_Dp rel h2 hy, s1, s2, ?_⟩
        exact w _ ι H rel .refl (by rw [Bool.xor_true] <;> rfl)
      · exact w.elim
    · exact w.elim
theorem os_int {op : CmpOp} {o : COp} {p : Int → Int → Bool} {q : List Nat → List Nat → Bool} (hp : ∀ i j, intC o i j = some (p i j)) (hq : ∀ x y, strC o x y = some (q x y)) (hc : ∀ a b S, cmpV o a b S = match a, b with
    | .int i, .int j => match intC o i j with
      | some r => .ok (.bl r) S
      | none => .bad
    | .str x, .str y => match strC o x y with
      | some r => .ok (.bl r) S
      | none => .bad
    | _, _ => .bad) (h : OpR X (compareOp op) (rI0 fun i j => .bl (p i j))) (h2 : OpR X (compareOp op) (fun x y H Q => ∃ i j, x = .str i ∧ y = .str j ∧ Q (.bl (q i.cps.toList j.cps.toList)) H)) : OpR X (compareOp op) (rOf X.K nm (cmpV o)) := by
  intro pins s σ H x y u v Q I rx ry z
  obtain ⟨ι, S, d, e, rel, hx, hy, w⟩ := z
  rw [hc] at w
  cases d <;> cases e <;> first
    | exact False.elim w
    | skip
  case int.int i j =>
    cases hx; cases hy
    simp only [hp] at w
    exact h pins s σ H _ _ u v Q I rx ry ⟨i, j, rfl, rfl, w _ ι H rel .refl rfl⟩
  case str.str i j =>
    cases hx; cases hy
    simp only [hq] at w
    refine h2 pins s σ H _ _ u v Q I rx ry ⟨strOf i, strOf j, rfl, rfl, ?_⟩
    rw [strOf_list, strOf_list]
    exact w _ ι H rel .refl rfl
theorem os_lt : OpR X (compareOp .Lt) (rOf X.K nm (cmpV .lt)) := os_int (fun _ _ => rfl) (fun _ _ => rfl) (fun _ _ _ => rfl) op_lt op_lt_str
theorem os_le : OpR X (compareOp .LtE) (rOf X.K nm (cmpV .le)) := os_int (fun _ _ => rfl) (fun _ _ => rfl) (fun _ _ _ => rfl) op_le op_le_str
theorem os_gt : OpR X (compareOp .Gt) (rOf X.K nm (cmpV .gt)) := os_int (fun _ _ => rfl) (fun _ _ => rfl) (fun _ _ _ => rfl) op_gt op_gt_str
theorem os_ge : OpR X (compareOp .GtE) (rOf X.K nm (cmpV .ge)) := os_int (fun _ _ => rfl) (fun _ _ => rfl) (fun _ _ _ => rfl) op_ge op_ge_str
def isNon : D → Bool
  | .non => true
  | _ => false
theorem rep_non {K : PySem.W.Frag} {ι : Io} {H : Hp} {d : D} {x : V} (h : Rep K nm ι H d x) : decide (x = .non) = isNon d := by
  cases d
  case non => cases h; rfl
  case bl => cases h; rfl
  case int => cases h; rfl
  case str => cases h; rfl
  case tup => obtain ⟨a, xs, rfl, _⟩ := h; rfl
  case ref => obtain ⟨a, _, rfl⟩ := h; rfl
  case gl => cases h; rfl
  case fro => obtain ⟨a, xs, rfl, _⟩ := h; rfl
  case frd => obtain ⟨a, xs, rfl, _⟩ := h; rfl
  case fri => obtain ⟨a, dx, xs, rfl, _⟩ := h; rfl
  case scr => obtain ⟨a, xs, rfl, _⟩ := h; rfl
theorem os_isN : OpR X (compareOp .Is) (rOf X.K nm (cmpV .isN)) := by
  intro pins s σ H x y u v Q I rx ry h
  obtain ⟨ι, S, d, e, rel, hx, hy, w⟩ := h
  simp only [cmpV] at w
  cases e <;> first
    | exact False.elim w
    | skip
  case non =>
    cases hy
    refine op_isN pins s σ H _ _ u v Q I rx ry ⟨rfl, ?_⟩
    rw [rep_non hx]
    refine w _ ι H rel .refl ?_
    cases d <;> rfl
  case bl k =>
    cases d <;> first
      | exact False.elim w
      | skip
    case bl j =>
      cases hx; cases hy; cases rx; cases ry
      show wpAny _ _ ((isSame (Value.bool j) (Value.bool k)) >>= fun z => pure (Value.bool z)) _ _ s
      refine wpAny_bind (wpAny_isSame_plain (by rfl) (wpAny_pure ?_))
      refine fin_bl I (w (.bl (j == k)) ι H rel .refl rfl) ?_
      cases j <;> cases k <;> rfl
theorem os_notN : OpR X (compareOp .IsNot) (rOf X.K nm (cmpV .notN)) := by
  intro pins s σ H x y u v Q I rx ry h
  obtain ⟨ι, S, d, e, rel, hx, hy, w⟩ := h
  simp only [cmpV] at w
  cases e <;> first
    | exact False.elim w
    | skip
  case non =>
    cases hy
    refine op_notN pins s σ H _ _ u v Q I rx ry ⟨rfl, ?_⟩
    rw [rep_non hx]
    refine w _ ι H rel .refl ?_
    cases d <;> rfl
theorem flat_rep {K : PySem.W.Frag} {ι : Io} {H : Hp} {d : D} {x : V} (h : Rep K nm ι H d x) (f : flatD d = true) : flatV x = true := by
  cases d <;> first
    | (cases f; done)
    | (cases h; rfl)
theorem flat_reps {K : PySem.W.Frag} {ι : Io} {H : Hp} : ∀ {ds : List D} {xs : List V}, Reps K nm ι H ds xs → ds.all flatD = true → xs.all flatV = true
  | [], _, h, _ => by cases h; rfl
  | d :: ds, _, h, f => by
    obtain ⟨v, w, rfl, h1, h2⟩ := h
    rw [List.all_cons, Bool.and_eq_true] at f
    rw [List.all_cons, flat_rep h1 f.1, flat_reps h2 f.2]
    rfl
theorem eqF_rep {K : PySem.W.Frag} {ι : Io} {H : Hp} {d e : D} {x y : V} (h : Rep K nm ι H d x) (g : Rep K nm ι H e y) (f : flatD d = true) (f2 : flatD e = true) : L2.eqV x y = eqF d e := by
  cases d <;> first
    | (cases f; done)
    | skip
  all_goals (cases h; cases e <;> first | (cases f2; done) | skip)
  all_goals (cases g; first | rfl | skip)
  show (Str.mk _ == Str.mk _) = decide _
  rw [Bool.eq_iff_iff]
  simp
theorem inF_rep {K : PySem.W.Frag} {ι : Io} {H : Hp} {d : D} {x : V} (h : Rep K nm ι H d x) (f : flatD d = true) : ∀ {ds : List D} {xs : List V}, Reps K nm ι H ds xs → ds.all flatD = true → L2.inV x xs = ds.any fun y => eqF y d
  | [], _, g, _ => by cases g; rfl
  | e :: ds, _, g, f2 => by
    obtain ⟨v, w, rfl, h1, h2⟩ := g
    rw [List.all_cons, Bool.and_eq_true] at f2
    have q := inF_rep h f h2 f2.2
    unfold L2.inV at q ⊢
    rw [List.any_cons, List.any_cons, q, eqF_rep h1 h f2.1 f]
theorem inF_some {d : D} {ds : List D} {r : Bool} (h : inF d ds = some r) : flatD d = true ∧ ds.all flatD = true ∧ r = ds.any fun y => eqF y d := by
  unfold inF at h
  split at h
  · rename_i hc
    obtain ⟨h1, h2⟩ := Bool.and_eq_true_iff.mp hc
    exact ⟨h1, h2, (Option.some.inj h).symm⟩
  · cases h
def op_in (neg : Bool) : CmpOp := if neg then .NotIn else .In
theorem rin {neg : Bool} : OpR X (compareOp (op_in neg)) (L2.rIn X.K neg) := by
  cases neg
  · exact op_in_seq
  · exact op_notIn_seq
theorem os_in_ (neg : Bool) : OpR X (compareOp (op_in neg)) (rOf X.K nm (inV neg)) := by
  intro pins s σ H x y u v Q I rx ry h
  obtain ⟨ι, S, d, e, rel, hx, hy, w⟩ := h
  have seq : ∀ (ds : List D) (a : Addr) (xs : List V) (r : Bool), y = .ref a → inF d ds = some r → (SqL X.K H a xs ∨ SqT X.K H a xs) → Reps X.K nm ι H ds xs → Wv X.K nm ι H Q (.bl (r ^^ neg)) S →
      wpAny (model X.prog X.w) X.A (compareOp (op_in neg) u v) (EP X pins σ Q) X.xe s := by
    intro ds a xs r ey hi hs hr w
    obtain ⟨f1, f2, rfl⟩ := inF_some hi
    refine rin pins s σ H x y u v Q I rx ry ⟨a, xs, ey, hs, flat_rep hx f1, flat_reps hr f2, ?_⟩
    rw [inF_rep hx f1 hr f2]
    refine w _ ι H rel .refl ?_
    cases neg
    · rw [Bool.xor_false] <;> rfl
    · rw [Bool.xor_true] <;> rfl
  have tup : ∀ (ds : List D), e = .tup ds → inV neg d e S = (match inF d ds with | some r => .ok (.bl (r ^^ neg)) S | none => .bad) := by
    rintro ds rfl
    cases d <;> rfl
  have fro : ∀ (ds : List D), e = .fro ds → inV neg d e S = (match inF d ds with | some r => .ok (.bl (r ^^ neg)) S | none => .bad) := by
    rintro ds rfl
    cases d <;> rfl
  have rf : ∀ n, e = .ref n → inV neg d e S = (match S[n]? with
    | some (.lst ys) => match inF d ys with
      | some r => .ok (.bl (r ^^ neg)) S
      | none => .bad
    | _ => .bad) := by
    rintro n rfl
    cases d <;> rfl
  cases e
  case tup ds =>
    rw [tup ds rfl] at w
    split at w
    · rename_i r hr
      obtain ⟨a, xs, rfl, h1, h2⟩ := hy
      exact seq ds a xs r rfl hr (.inr h1) h2 w
    · exact w.elim
  case fro ds =>
    rw [fro ds rfl] at w
    split at w
    · rename_i r hr
      obtain ⟨a, xs, rfl, h1, h2⟩ := hy
      exact seq ds a xs r rfl hr (.inl h1.l) h2 w
    · exact w.elim
  case ref n =>
    rw [rf n rfl] at w
    split at w
    · rename_i ds hs
      split at w
      · rename_i r hr
        obtain ⟨a, xs, rfl, _, h1, h2⟩ := rel.ref hs hy
        exact seq ds a xs r rfl hr (.inl (SqL.of h1)) h2 w
      · exact w.elim
    · exact w.elim
  case str b =>
    cases d <;> first
      | exact False.elim w
      | skip
    case str a =>
      cases hx; cases hy
      cases neg
      · refine op_in_str pins s σ H _ _ u v Q I rx ry ⟨strOf a, strOf b, rfl, rfl, ?_⟩
        refine w _ ι H rel .refl ?_
        rw [Bool.xor_false, strOf_len]
        rfl
      · refine op_notIn_str pins s σ H _ _ u v Q I rx ry ⟨strOf a, strOf b, rfl, rfl, ?_⟩
        refine w _ ι H rel .refl ?_
        rw [Bool.xor_true, strOf_len]
        rfl
  all_goals (cases d <;> exact False.elim w)
def COp.op : COp → CmpOp
  | .eq => .Eq | .ne => .NotEq | .lt => .Lt | .le => .LtE | .gt => .Gt | .ge => .GtE | .isin => .In | .notin => .NotIn | .isN => .Is | .notN => .IsNot
theorem os_cmp (hr : X.A.units + 64 < cLine) (op : COp) : OpR X (compareOp op.op) (rOf X.K nm (cmpV op)) := by
  cases op
  · exact os_eq hr
  · exact os_ne hr
  · exact os_lt
  · exact os_le
  · exact os_gt
  · exact os_ge
  · exact os_in_ false
  · exact os_in_ true
  · exact os_isN
  · exact os_notN
/-! ### subscripts, slices, truth, lengths -/
theorem Reps.atI {K : PySem.W.Frag} {ι : Io} {H : Hp} {ds : List D} {xs : List V} {i : Int} {d : D} (h : Reps K nm ι H ds xs) (e : L2.atI ds i = some d) : ∃ v, L2.atI xs i = some v ∧ Rep K nm ι H d v := by
  unfold L2.atI at e ⊢
  rw [h.length]
  cases q : L2.ixN ds.length i with
  | none => rw [q] at e; cases e
  | some j =>
    rw [q] at e
    exact h.get e
theorem Reps.cut {K : PySem.W.Frag} {ι : Io} {H : Hp} {ds : List D} {xs : List V} (h : Reps K nm ι H ds xs) (lo hi : Option Int) : Reps K nm ι H (cutL ds lo hi) (L2.cutV xs lo hi) := by
  unfold cutL L2.cutV
  rw [h.length]
  exact Reps.take _ (Reps.drop _ h)
theorem ox_idx : IxR X (rOf X.K nm idxV) := by
  intro value slice pins s σ H x y v u Q I rx ry h hs
  obtain ⟨ι, S, d, e, rel, hx, hy, w⟩ := h
  cases d <;> cases e <;> first
    | exact False.elim w
    | skip
  case tup.int ds i =>
    simp only [idxV] at w
    obtain ⟨a, xs, rfl, h1, h2⟩ := hx
    cases hy
    split at w
    · rename_i d hd
      obtain ⟨z, h3, h4⟩ := h2.atI hd
      exact ix_tup value slice pins s σ H _ _ v u Q I rx ry ⟨a, xs, i, z, rfl, rfl, h1, h3, w _ ι H rel .refl h4⟩ hs
    · exact w.elim
  case fro.int ds i =>
    simp only [idxV] at w
    obtain ⟨a, xs, rfl, h1, h2⟩ := hx
    cases hy
    split at w
    · rename_i d hd
      obtain ⟨z, h3, h4⟩ := h2.atI hd
      exact ix_list value slice pins s σ H _ _ v u Q I rx ry ⟨a, xs, i, z, rfl, rfl, h1.l, h3, w _ ι H rel .refl h4⟩ hs
    · exact w.elim
  case ref.int n i =>
    simp only [idxV] at w
    cases hy
    split at w
    · rename_i ds hds
      obtain ⟨a, xs, rfl, _, h1, h2⟩ := rel.ref hds hx
      split at w
      · rename_i d hd
        obtain ⟨z, h3, h4⟩ := h2.atI hd
        exact ix_list value slice pins s σ H _ _ v u Q I rx ry ⟨a, xs, i, z, rfl, rfl, SqL.of h1, h3, w _ ι H rel .refl h4⟩ hs
      · exact w.elim
    · exact w.elim
  case str.int z i =>
    simp only [idxV] at w
    cases hx; cases hy
    split at w
    · rename_i c hc
      split at hc
      · rename_i hl
        refine ix_str value slice pins s σ H _ _ v u Q I rx ry ⟨strOf z, i, c, rfl, rfl, ?_, ?_, w _ ι H rel .refl rfl⟩ hs
        · rw [strOf_len]
          exact lim_le hl
        · rw [strOf_list]
          exact hc
      · cases hc
    · exact w.elim
def sOf (K : PySem.W.Frag) (nm : Nat → Addr) : V → Option Int → Option Int → Hp → VK → Prop := fun x lo hi H Q => ∃ ι S d, Rel K nm ι S H ∧ Rep K nm ι H d x ∧ Wg (sliV d lo hi S) (Wv K nm ι H Q) NoX
theorem cutS_of (z : List Nat) (lo hi : Option Int) : cutS (strOf z) lo hi = strOf (cutL z lo hi) := by
  unfold cutS cutL
  rw [strOf_list, strOf_len]
  rfl
theorem ox_sli : SlR X (sOf X.K nm) := by
  intro pins s σ H x v vl vu lo hi sl Q I rx hs pl pu h
  obtain ⟨ι, S, d, rel, hx, w⟩ := h
  cases d <;> first
    | exact False.elim w
    | skip
  case str z =>
    simp only [sliV] at w
    cases hx
    split at w
    · rename_i hl
      refine sl_str pins s σ H _ v vl vu lo hi sl Q I rx hs pl pu ⟨strOf z, rfl, by rw [strOf_len]; exact lim_le hl, ?_⟩
      rw [cutS_of]
      exact w _ ι H rel .refl rfl
    · exact w.elim
  case tup ds =>
    obtain ⟨a, xs, rfl, h1, h2⟩ := hx
    refine sl_tupA pins s σ H _ v vl vu lo hi sl Q I rx hs pl pu ⟨a, xs, rfl, h1, fun hw => ?_, fun _ p hp => ?_⟩
    · refine w _ ι H rel .refl ⟨a, xs, rfl, h1, ?_⟩
      have e : cutL ds lo hi = ds := by
        unfold cutL
        rw [← h2.length, hw.1, hw.2]
        simp [h2.length]
      rw [e]
      exact h2
    · obtain ⟨r1, e1⟩ := rel.side (o := .tup (L2.cutV xs lo hi)) hp
      exact w _ ι _ r1 e1 ⟨p, _, rfl, SqT.of upd_same, (h2.cut lo hi).mono rel e1⟩
  case ref n =>
    simp only [sliV] at w
    split at w
    · rename_i ds hds
      obtain ⟨a, xs, rfl, _, h1, h2⟩ := rel.ref hds hx
      refine sl_list pins s σ H _ v vl vu lo hi sl Q I rx hs pl pu ⟨a, xs, rfl, SqL.of h1, fun p hp => ?_⟩
      obtain ⟨r1, e1⟩ := rel.new hp (h2.cut lo hi)
      exact w _ _ _ r1 e1 ⟨p, rel.last, rfl⟩
    · exact w.elim
  case fro ds =>
    obtain ⟨a, xs, rfl, h1, h2⟩ := hx
    refine sl_list pins s σ H _ v vl vu lo hi sl Q I rx hs pl pu ⟨a, xs, rfl, h1.l, fun p hp => ?_⟩
    obtain ⟨r1, e1⟩ := rel.newF hp (h2.cut lo hi)
    exact w _ _ _ r1 e1 ((h2.cut lo hi).froz rel hp)
theorem emp_reps {K : PySem.W.Frag} {ι : Io} {H : Hp} {ds : List D} {xs : List V} (h : Reps K nm ι H ds xs) : (!ds.isEmpty) = !xs.isEmpty := by
  cases ds
  · cases h; rfl
  · obtain ⟨v, w, rfl, _, _⟩ := h; rfl
theorem tru_rep {K : PySem.W.Frag} {ι : Io} {S : Sto} {H : Hp} {d : D} {x : V} {P : Bool → Sto → Prop} (rel : Rel K nm ι S H) (h : Rep K nm ι H d x) (w : Wg (truV d S) P NoX) : ∃ k, TruV K x H k ∧ P k S := by
  cases d
  case non => cases h; exact ⟨false, rfl, w⟩
  case bl b => cases h; exact ⟨b, rfl, w⟩
  case int i => cases h; exact ⟨_, rfl, w⟩
  case str z =>
    cases h
    simp only [truV] at w
    split at w
    · rename_i hl
      refine ⟨_, ⟨?_, ?_⟩, w⟩
      · show (strOf z).length ≤ sizeLine
        rw [strOf_len]
        exact lim_le hl
      · show _ = (((strOf z).length : Int) != 0)
        rw [strOf_len, Bool.eq_iff_iff]
        simp
    · exact w.elim
  case tup ds =>
    obtain ⟨a, xs, rfl, h1, h2⟩ := h
    exact ⟨_, .inr (.inl ⟨xs, h1, emp_reps h2⟩), w⟩
  case ref n =>
    simp only [truV] at w
    split at w
    · rename_i ds hds
      obtain ⟨a, xs, rfl, _, h1, h2⟩ := rel.ref hds h
      exact ⟨_, .inl ⟨xs, SqL.of h1, emp_reps h2⟩, w⟩
    · exact w.elim
  case gl => exact w.elim
  case frd => exact w.elim
  case fri => exact w.elim
  case scr => exact w.elim
  case fro ds =>
    obtain ⟨a, xs, rfl, h1, h2⟩ := h
    exact ⟨_, .inl ⟨xs, h1.l, emp_reps h2⟩, w⟩
theorem len_rep {K : PySem.W.Frag} {ι : Io} {S : Sto} {H : Hp} {d : D} {x : V} {P : D → Sto → Prop} (rel : Rel K nm ι S H) (h : Rep K nm ι H d x) (w : Wg (lenV d S) P NoX) : ∃ n : Nat, LenV K x H n ∧ P (.int n) S := by
  cases d <;> first
    | exact False.elim w
    | skip
  case str z =>
    cases h
    simp only [lenV] at w
    split at w
    · rename_i hl
      refine ⟨_, ⟨?_, ?_⟩, w⟩
      · show (strOf z).length ≤ sizeLine
        rw [strOf_len]
        exact lim_le hl
      · exact (strOf_len z).symm
    · exact w.elim
  case tup ds =>
    obtain ⟨a, xs, rfl, h1, h2⟩ := h
    exact ⟨_, .inr ⟨xs, h1, h2.length.symm⟩, w⟩
  case ref n =>
    simp only [lenV] at w
    split at w
    · rename_i ds hds
      obtain ⟨a, xs, rfl, _, h1, h2⟩ := rel.ref hds h
      exact ⟨_, .inl ⟨xs, SqL.of h1, h2.length.symm⟩, w⟩
    · exact w.elim
  case fro ds =>
    obtain ⟨a, xs, rfl, h1, h2⟩ := h
    exact ⟨_, .inl ⟨xs, h1.l, h2.length.symm⟩, w⟩
end
end Pl

set_option maxHeartbeats 2000000
/-! What an expression of the text has to look like to be one of Pl's (ck..), and that it does then what Pl says. -/
namespace Pl
open PySem L2

structure Fx where
  ι0 : Io
  H0 : Hp
  XW : Xc → Sto → Prop
/-- no exception may leave -/
def Fx.nox (fx : Fx) : Fx := ⟨fx.ι0, fx.H0, NoX⟩
section
variable (K : PySem.W.Frag) (nm : Nat → Addr) (nms : Nat → Str)
structure Sta (fx : Fx) (ι : Io) (S : Sto) (ρ : Slo) (σ : L2.St) (H : Hp) : Prop where
  rel : Rel K nm ι S H
  ext : Ex' fx.ι0 fx.H0 ι H
  len : ρ.length = σ.length
  slo : ∀ (i : Nat) (d : D), ρ[i]? = some (some d) → ∃ v, σ[i]? = some (some v) ∧ Rep K nm ι H d v
def FsR (ι : Io) (H : Hp) : List (Nat × D) → List (Str × V) → Prop
  | [], gs => gs = []
  | (f, d) :: fs, gs => ∃ v r, gs = (nms f, v) :: r ∧ Rep K nm ι H d v ∧ FsR ι H fs r
/-- an exception as it flies -/
def ExcR (ι : Io) (H : Hp) (x : Xc) (cls : Value) (d : Option Addr) : Prop := cls = .ref (nm x.c) ∧ ∃ dd gs, d = some dd ∧ H dd = some (.xd gs) ∧ FsR K nm nms ι H x.fs gs
def Ew (fx : Fx) : XK := fun cls d H' => ∃ x S' ι', fx.XW x S' ∧ Rel K nm ι' S' H' ∧ Ex' fx.ι0 fx.H0 ι' H' ∧ ExcR K nm nms ι' H' x cls d
/-- a def's promise: what Pl's g does -/
def spF (g : List D → Sto → R D) : Sp := fun vs H Q E => ∃ ι S ds, Rel K nm ι S H ∧ Reps K nm ι H ds vs ∧
  Wg (g ds S) (Wv K nm ι H Q) fun x S' => ∀ cls d ι' H', Rel K nm ι' S' H' → Ex' ι H ι' H' → ExcR K nm nms ι' H' x cls d → E cls d H'
def tE (fx : Fx) (m : Slo → Sto → R D) : TE := fun σ H Q => ∃ ι S ρ, Sta K nm fx ι S ρ σ H ∧ Wg (m ρ S) (Wv K nm ι H Q) fx.XW
def tA (fx : Fx) (m : Slo → Sto → R (List D)) : TA := fun σ H Q => ∃ ι S ρ, Sta K nm fx ι S ρ σ H ∧ Wg (m ρ S) (fun ds S' => ∀ vs ι' H', Rel K nm ι' S' H' → Ex' ι H ι' H' → Reps K nm ι' H' ds vs → Q vs H') fx.XW
def tT (fx : Fx) (m : Slo → Sto → R Bool) : TT := fun σ H Q => ∃ ι S ρ, Sta K nm fx ι S ρ σ H ∧ Wg (m ρ S) (fun b S' => ∀ ι' H', Rel K nm ι' S' H' → Ex' ι H ι' H' → Q b H') fx.XW
def tO (fx : Fx) (m : Slo → Sto → R (Option Int)) : TO := fun σ H Q => ∃ ι S ρ, Sta K nm fx ι S ρ σ H ∧ Wg (m ρ S) (fun o S' => ∀ ι' H', Rel K nm ι' S' H' → Ex' ι H ι' H' → Q o H') fx.XW
/-- a new list -/
def tF (fx : Fx) (m : Slo → Sto → R (List D)) : TE := fun σ H Q => ∃ ι S ρ, Sta K nm fx ι S ρ σ H ∧ Wg (m ρ S) (fun ds S' => ∀ p xs ι' H', Rel K nm ι' S' H' → Ex' ι H ι' H' → H p = none → H' p = some (.lst xs) → p ∉ ι' → Reps K nm ι' H' ds xs → Q (.ref p) H') fx.XW
/-- what is true from (ι1, S1, H1) on while the places g stand -/
def Stb (ι1 : Io) (S1 : Sto) (H1 : Hp) (g : List Nat) (ι : Io) (S : Sto) (H : Hp) : Prop := Rel K nm ι S H ∧ Ex' ι1 H1 ι H ∧ ∀ i ∈ g, S[i]? = S1[i]?
def SeqAt (ι1 : Io) (S1 : Sto) (H1 : Hp) (sv : Sv) (a : Addr) : Prop := ∀ ι S H, Stb K nm ι1 S1 H1 sv.g ι S H → ∃ xs, (match sv.tup with | true => SqT K H a xs | false => SqL K H a xs) ∧ Reps K nm ι H sv.ds xs
def tQ (fx : Fx) (m : Slo → Sto → R Sv) : TE := fun σ H Q => ∃ ι S ρ, Sta K nm fx ι S ρ σ H ∧ Wg (m ρ S) (fun sv S' => ∀ a ι' H', Rel K nm ι' S' H' → Ex' ι H ι' H' → SeqAt K nm ι' S' H' sv a → Q (.ref a) H') fx.XW
structure Wk (J : L2.It) (sv : Sv) (ι1 : Io) (S1 : Sto) (H1 : Hp) : Prop where
  goes : ∀ i ι S H, Stb K nm ι1 S1 H1 sv.g ι S H → i < sv.ds.length → J.go i H
  stops : ∀ ι S H, Stb K nm ι1 S1 H1 sv.g ι S H → J.stop sv.ds.length H
  yields : ∀ i ι S H x H', Stb K nm ι1 S1 H1 sv.g ι S H → i < sv.ds.length → J.yld i H x H' → ∃ d, sv.ds[i]? = some d ∧ Rel K nm ι S H' ∧ Ex' ι H ι H' ∧ Rep K nm ι H' d x
def tI (fx : Fx) (m : Slo → Sto → R Sv) : TI := fun σ H R => ∃ ι S ρ, Sta K nm fx ι S ρ σ H ∧ Wg (m ρ S) (fun sv S' => ∀ J ι' H', Rel K nm ι' S' H' → Ex' ι H ι' H' → Wk K nm J sv ι' S' H' → R J H') fx.XW
end
section
variable {K : PySem.W.Frag} {nm : Nat → Addr} {nms : Nat → Str} {fx : Fx} {ι ι' : Io} {S S' : Sto} {ρ : Slo} {σ : L2.St} {H H' : Hp}
theorem Sta.on (st : Sta K nm fx ι S ρ σ H) (r : Rel K nm ι' S' H') (e : Ex' ι H ι' H') : Sta K nm fx ι' S' ρ σ H' :=
  ⟨r, st.ext.trans e, st.len, fun i d h => by
    obtain ⟨v, h1, h2⟩ := st.slo i d h
    exact ⟨v, h1, h2.mono st.rel e⟩⟩
theorem Wv.on {Q : VK} {d : D} {S2 : Sto} (e : Ex' ι H ι' H') (w : Wv K nm ι H Q d S2) : Wv K nm ι' H' Q d S2 := fun v ι2 H2 r e2 p => w v ι2 H2 r (e.trans e2) p
theorem Stb.refl (r : Rel K nm ι S H) {g : List Nat} : Stb K nm ι S H g ι S H := ⟨r, .refl, fun _ _ => rfl⟩
theorem Wg.nox {α : Type} {r : R α} {P : α → Sto → Prop} {XW : Xc → Sto → Prop} (h : Wg r P NoX) : Wg r P XW := by
  cases r with
  | ok a S => exact h
  | exc x S => exact h.elim
  | bad => exact h
theorem Wg.ofNox {α : Type} {r : R α} {P : α → Sto → Prop} {XW : Xc → Sto → Prop} (h : Wg r.nox P XW) : Wg r P NoX := by
  cases r with
  | ok a S => exact h
  | exc x S => exact h.elim
  | bad => exact h
theorem Wg.noxI {α : Type} {r : R α} {P : α → Sto → Prop} {XW : Xc → Sto → Prop} (h : Wg r P NoX) : Wg r.nox P XW := by
  cases r with
  | ok a S => exact h
  | exc x S => exact h.elim
  | bad => exact h
end
theorem PEimp {X : Cx} {e : Expr} {t t' : TE} (h : PE X e t) (i : ∀ σ H Q, t' σ H Q → t σ H Q) : PE X e t' := ⟨fun pins s σ H Q I q => h.run pins s σ H Q I (i _ _ _ q)⟩
theorem PTimp {X : Cx} {e : Expr} {t t' : TT} (h : PT X e t) (i : ∀ σ H Q, t' σ H Q → t σ H Q) : PT X e t' := ⟨fun pins s σ H Q I q => h.run pins s σ H Q I (i _ _ _ q)⟩
theorem PAimp {X : Cx} {e : List Expr} {t t' : TA} (h : PA X e t) (i : ∀ σ H Q, t' σ H Q → t σ H Q) : PA X e t' := ⟨fun pos pins s σ H Q I q => h.run pos pins s σ H Q I (i _ _ _ q)⟩
theorem POimp {X : Cx} {e : Option Expr} {t t' : TO} (h : PO X e t) (i : ∀ σ H Q, t' σ H Q → t σ H Q) : PO X e t' := ⟨fun pins s σ H Q I q => h.run pins s σ H Q I (i _ _ _ q)⟩
theorem PIimp {X : Cx} {tg e : Expr} {t t' : TI} (h : PI X tg e t) (i : ∀ σ H Q, t' σ H Q → t σ H Q) : PI X tg e t' := ⟨fun pins s σ H Q I q => h.run pins s σ H Q I (i _ _ _ q)⟩

/-- the built-in names that Pl speaks of -/
def blts : List Str := ["len", "all", "any", "range", "zip", "enumerate", "tuple", "list", "isinstance", "int", "bool", "str", "sorted", "max", "min", "sum", "set", "dict", "repr"]
/-- the text's defs that may be called: by places; by names too (the count of values by place, the names, the order) -/
structure Fl where
  on : Nat → Bool
  kw : Nat → Nat → List Str → List Nat → Bool
  fld : Nat → Str → Bool
  mth : Nat → Str → Nat → Bool
  mkc : Nat → Nat → Bool
structure Gd (X : Cx) (nm : Nat → Addr) (nms : Nat → Str) (C : Nat → List D → Sto → R D) (G : Nat → Option D) (fl : Fl) (fx : Fx) : Prop where
  calm : X.calm = true
  nd : X.N.Nodup
  un : X.A.units + 70 < cLine
  glo : ∀ n d, G n = some d → ∃ u v, X.mg (nms n) = some u ∧ RelV v u ∧ ∀ ι H, Rep X.K nm ι H d v
  fns : ∀ f, fl.on f = true → ∃ a fd ps k, X.mg (nms f) = some (.ref a) ∧ PySem.W.keepIn X.K (.ref a) = true ∧ FnOk X.prog X.w X.K X.mg X.base (L2.CX X.prog X.w) k a fd ps (spF X.K nm nms (C f)) ∧ Room k X.A ∧ Binds X.K fd ps [] ∧ (∀ n ks perm, fl.kw f n ks perm = true → KBn X.K fd ps n ks (fun us ws => permL perm (us ++ ws)) (fun us ws => permL perm (us ++ ws))) ∧ a = nm f
  cls : ∀ c f, fl.fld c f = true → Cls X.K (nm c) ∧ NoAttr X.K (nm c) f
  mth : ∀ c m g, fl.mth c m g = true → ∃ a fd ps k, Cls X.K (nm c) ∧ Meth X.K (nm c) m a ∧ FnOk X.prog X.w X.K X.mg X.base (L2.CX X.prog X.w) k a fd ps (spF X.K nm nms (C g)) ∧ Room k X.A ∧ Binds X.K fd ps []
  mkc : ∀ c g, fl.mkc c g = true → ∃ a fd ps k, X.mg (nms c) = some (.ref (nm c)) ∧ Mk X.K (nm c) a ∧ FnOk X.prog X.w X.K X.mg X.base (L2.CX X.prog X.w) k a fd ps (spF X.K nm nms (C g)) ∧ Room (k + 1) X.A ∧ Binds X.K fd ps []
  blt : ∀ x ∈ blts, X.mg x = none
  pass : Passes (L2.CX X.prog X.w) X (Ew X.K nm nms fx)
section
variable {X : Cx} {nm : Nat → Addr} {nms : Nat → Str} {C : Nat → List D → Sto → R D} {G : Nat → Option D} {fl : Fl} {fx : Fx}
theorem Gd.mono {fx' : Fx} (g : Gd X nm nms C G fl fx) (h : ∀ cls d H, Ew X.K nm nms fx' cls d H → Ew X.K nm nms fx cls d H) : Gd X nm nms C G fl fx' :=
  ⟨g.calm, g.nd, g.un, g.glo, g.fns, g.cls, g.mth, g.mkc, g.blt, fun pins σ H s e s' I c => g.pass pins σ H s e s' I (by
    obtain ⟨a, B, H', cls, d, h1, h2, h3, h4, h5, h6, h7, h8⟩ := c
    exact ⟨a, B, H', cls, d, h1, h2, h3, h4, h5, h6, h7, h _ _ _ h8⟩)⟩
/-- in a comprehension's block -/
theorem Gd.blk (g : Gd X nm nms C G fl fx) (s : Shared) (H : Hp) (scope : Scope) (cenv : Env) (fp : List Addr) : Gd (X.blk s H scope cenv fp) nm nms C G fl fx.nox :=
  ⟨g.calm, g.nd, g.un, g.glo, g.fns, g.cls, g.mth, g.mkc, g.blt, fun pins σ H s e s' I c => by
    obtain ⟨a, B, H', cls, d, h1, h2, h3, h4, h5, h6, h7, h8⟩ := c
    obtain ⟨x, S', ι', z, _⟩ := h8
    exact z.elim⟩

/-! ### the leaves -/
theorem se_var {i : Nat} {x : Str} {pos : Pos} (hN : X.N[i]? = some x) (hv : Vis X.env.scope x) (hd : (x == ("__debug__" : Str)) = false) (hc : (x == ("__classdict__" : Str)) = false) : PE X (.Name x pos) (tE X.K nm fx (ev C G (.var i))) := by
  refine PEimp (pe_var hN hv hd hc) fun σ H Q h => ?_
  obtain ⟨ι, S, ρ, st, w⟩ := h
  simp only [ev] at w
  split at w
  · rename_i d hd
    obtain ⟨v, h1, h2⟩ := st.slo i d hd
    exact ⟨v, h1, w v ι H st.rel .refl h2⟩
  · exact w.elim
theorem se_glo (g : Gd X nm nms C G fl fx) {n : Nat} {pos : Pos} (hg : Gl X (nms n)) (hd : ((nms n) == ("__debug__" : Str)) = false) : PE X (.Name (nms n) pos) (tE X.K nm fx (ev C G (.glo n))) := by
  cases e : G n with
  | none =>
    refine ⟨fun pins s σ H Q I h => ?_⟩
    obtain ⟨ι, S, ρ, st, w⟩ := h
    simp only [ev, e] at w
    exact w.elim
  | some d =>
    obtain ⟨u, v, hm, hr, hrep⟩ := g.glo n d e
    refine PEimp (pe_glob hg hm hr hd) fun σ H Q h => ?_
    obtain ⟨ι, S, ρ, st, w⟩ := h
    simp only [ev, e] at w
    exact w v ι H st.rel .refl (hrep ι H)
theorem se_cst {d : D} {e : Expr} {v : V} (h : PE X e (tC v)) (hr : ∀ ι H, Rep X.K nm ι H d v) : PE X e (tE X.K nm fx (ev C G (.cst d))) := by
  refine PEimp h fun σ H Q h => ?_
  obtain ⟨ι, S, ρ, st, w⟩ := h
  exact w v ι H st.rel .refl (hr ι H)
/-! ### arguments -/
theorem sa_nil : PA X [] (tA X.K nm fx (evs C G [])) := by
  refine PAimp pa_nil fun σ H Q h => ?_
  obtain ⟨ι, S, ρ, st, w⟩ := h
  exact w [] ι H st.rel .refl rfl
theorem sa_cons {e : Expr} {es : List Expr} {m : Ex} {ms : List Ex} (h : PE X e (tE X.K nm fx (ev C G m))) (hs : PA X es (tA X.K nm fx (evs C G ms))) (he : starEach (e :: es) X.env = (false, eval e X.env) :: starEach es X.env) : PA X (e :: es) (tA X.K nm fx (evs C G (m :: ms))) := by
  refine PAimp (pa_cons h hs he) fun σ H Q h => ?_
  obtain ⟨ι, S, ρ, st, w⟩ := h
  simp only [evs] at w
  refine ⟨ι, S, ρ, st, w.bind.mono fun d S1 w1 v ι1 H1 r1 e1 p1 => ?_⟩
  refine ⟨ι1, S1, ρ, st.on r1 e1, w1.bind.mono fun ds S2 w2 vs ι2 H2 r2 e2 p2 => ?_⟩
  exact w2 (v :: vs) ι2 H2 r2 (e1.trans e2) ⟨v, vs, rfl, p1.mono r1 e2, p2⟩
theorem se_tup {es : List Expr} {ms : List Ex} {k : Nat} {pos : Pos} (h : PA X es (tA X.K nm fx (evs C G ms))) : PE X (.Tuple es k pos) (tE X.K nm fx (ev C G (.tup ms))) := by
  refine PEimp (pe_tup h) fun σ H Q h => ?_
  obtain ⟨ι, S, ρ, st, w⟩ := h
  simp only [ev] at w
  refine ⟨ι, S, ρ, st, w.bind.mono fun ds S1 w1 vs ι1 H1 r1 e1 p1 => ?_⟩
  split at w1
  · rename_i hl
    refine ⟨by rw [p1.length]; exact lim_le hl, fun p hp => ?_⟩
    obtain ⟨r2, e2⟩ := r1.side (o := .tup vs) hp
    exact w1 _ ι1 _ r2 (e1.trans e2) ⟨p, vs, rfl, SqT.of upd_same, p1.mono r1 e2⟩
  · exact w1.elim
theorem sf_lst {es : List Expr} {ms : List Ex} {pos : Pos} (h : PA X es (tA X.K nm fx (evs C G ms))) : PE X (.List es pos) (tF X.K nm fx (evF C G (.lst ms))) := by
  refine PEimp (pe_lst h) fun σ H Q h => ?_
  obtain ⟨ι, S, ρ, st, w⟩ := h
  simp only [evF] at w
  refine ⟨ι, S, ρ, st, w.bind.mono fun ds S1 w1 vs ι1 H1 r1 e1 p1 => ?_⟩
  split at w1
  · rename_i hl
    refine ⟨by rw [p1.length]; exact lim_le hl, fun p hp => ?_⟩
    obtain ⟨r2, e2⟩ := r1.side (o := .lst vs) hp
    refine w1 p vs ι1 _ r2 (e1.trans e2) ?_ upd_same (r1.free hp) (p1.mono r1 e2)
    cases q : H p with
    | none => rfl
    | some o =>
      have hi : p ∉ ι := fun hm => by
        exact r1.free hp (e1.mem hm)
      have := (e1.keep p o q hi).1
      rw [hp] at this
      cases this
  · exact w1.elim
/-! ### operators -/
theorem se_bin2 {e : Expr} {m1 m2 : Slo → Sto → R D} {op : D → D → Sto → R D} {m : Slo → Sto → R D} (he : PE X e (tOp (rOf X.K nm op) (tE X.K nm fx m1) (tE X.K nm fx m2)))
    (hm : ∀ ρ S, m ρ S = (m1 ρ S).bind fun x S1 => (m2 ρ S1).bind fun y S2 => op x y S2) (hop : ∀ a b S x S', op a b S ≠ .exc x S') : PE X e (tE X.K nm fx m) := by
  refine PEimp he fun σ H Q h => ?_
  obtain ⟨ι, S, ρ, st, w⟩ := h
  rw [hm] at w
  refine ⟨ι, S, ρ, st, w.bind.mono fun d S1 w1 v ι1 H1 r1 e1 p1 => ?_⟩
  refine ⟨ι1, S1, ρ, st.on r1 e1, w1.bind.mono fun d2 S2 w2 v2 ι2 H2 r2 e2 p2 => ?_⟩
  refine ⟨ι2, S2, d, d2, r2, p1.mono r1 e2, p2, ?_⟩
  cases q : op d d2 S2 with
  | ok a S3 =>
    rw [q] at w2
    exact Wv.on (e1.trans e2) w2
  | exc x S3 => exact absurd q (hop _ _ _ _ _)
  | bad => rw [q] at w2; exact w2
theorem binV_nox (op : BOp) (a b : D) (S : Sto) (x : Xc) (S' : Sto) : binV op a b S ≠ .exc x S' := by
  unfold binV
  split <;> (repeat' split) <;> exact fun q => by cases q
theorem eqV_nox (neg : Bool) (a b : D) (S : Sto) (x : Xc) (S' : Sto) : eqV neg a b S ≠ .exc x S' := by
  unfold eqV
  split <;> (repeat' split) <;> exact fun q => by cases q
theorem inV_nox (neg : Bool) (a b : D) (S : Sto) (x : Xc) (S' : Sto) : inV neg a b S ≠ .exc x S' := by
  unfold inV
  split <;> (repeat' split) <;> exact fun q => by cases q
theorem cmpV_nox (op : COp) (a b : D) (S : Sto) (x : Xc) (S' : Sto) : cmpV op a b S ≠ .exc x S' := by
  unfold cmpV
  split <;> first
    | exact eqV_nox _ _ _ _ _ _
    | exact inV_nox _ _ _ _ _ _
    | ((repeat' split) <;> exact fun q => by cases q)
theorem idxV_nox (a b : D) (S : Sto) (x : Xc) (S' : Sto) : idxV a b S ≠ .exc x S' := by
  unfold idxV
  split <;> (repeat' split) <;> exact fun q => by cases q
theorem sliV_nox (a : D) (lo hi : Option Int) (S : Sto) (x : Xc) (S' : Sto) : sliV a lo hi S ≠ .exc x S' := by
  unfold sliV
  split <;> (repeat' split) <;> exact fun q => by cases q
theorem Wg.nox' {α : Type} {r : R α} {P : α → Sto → Prop} {XW : Xc → Sto → Prop} (h : Wg r P XW) (n : ∀ x S, r ≠ .exc x S) : Wg r P NoX := by
  cases r with
  | ok a S => exact h
  | exc x S => exact absurd rfl (n x S)
  | bad => exact h
theorem se_bin (g : Gd X nm nms C G fl fx) {a b : Expr} {ma mb : Ex} {op : BOp} {pos : Pos} (ha : PE X a (tE X.K nm fx (ev C G ma))) (hb : PE X b (tE X.K nm fx (ev C G mb))) : PE X (.BinOp a op.op b pos) (tE X.K nm fx (ev C G (.bin op ma mb))) :=
  se_bin2 (pe_op (os_bin op) ha hb) (fun _ _ => rfl) (binV_nox op)
theorem se_cmp (g : Gd X nm nms C G fl fx) {a b : Expr} {ma mb : Ex} {op : COp} {pos : Pos} (ha : PE X a (tE X.K nm fx (ev C G ma))) (hb : PE X b (tE X.K nm fx (ev C G mb))) (hm : behindInMarks op.op b = false) : PE X (.Compare a [op.op] [b] pos) (tE X.K nm fx (ev C G (.cmp op ma mb))) :=
  se_bin2 (pe_cmpR (os_cmp (by have := g.un; omega) op) ha hb hm) (fun _ _ => rfl) (cmpV_nox op)
theorem se_idx (g : Gd X nm nms C G fl fx) {a b : Expr} {ma mb : Ex} {pos : Pos} (ha : PE X a (tE X.K nm fx (ev C G ma))) (hb : PE X b (tE X.K nm fx (ev C G mb))) (hs : PlainIx b) : PE X (.Subscript a b pos) (tE X.K nm fx (ev C G (.idx ma mb))) :=
  se_bin2 (pe_ix ox_idx ha hb hs) (fun _ _ => rfl) idxV_nox
theorem se_neg {a : Expr} {ma : Ex} {pos : Pos} (ha : PE X a (tE X.K nm fx (ev C G ma))) : PE X (.UnaryOp .USub a pos) (tE X.K nm fx (ev C G (.neg ma))) := by
  refine PEimp (pe_un un_neg ha) fun σ H Q h => ?_
  obtain ⟨ι, S, ρ, st, w⟩ := h
  simp only [ev] at w
  refine ⟨ι, S, ρ, st, w.bind.mono fun d S1 w1 v ι1 H1 r1 e1 p1 => ?_⟩
  cases d <;> first
    | exact False.elim w1
    | skip
  case int i =>
    cases p1
    exact ⟨i, rfl, w1 _ ι1 H1 r1 e1 rfl⟩
theorem se_not {a : Expr} {ma : Ex} {pos : Pos} (ha : PE X a (tE X.K nm fx (ev C G ma))) : PE X (.UnaryOp .Not a pos) (tE X.K nm fx (ev C G (.not_ ma))) := by
  refine PEimp (pe_not ha) fun σ H Q h => ?_
  obtain ⟨ι, S, ρ, st, w⟩ := h
  simp only [ev] at w
  refine ⟨ι, S, ρ, st, w.bind.mono fun d S1 w1 v ι1 H1 r1 e1 p1 => ?_⟩
  cases d <;> first
    | exact False.elim w1
    | skip
  case bl c =>
    cases p1
    exact ⟨c, rfl, w1 _ ι1 H1 r1 e1 rfl⟩
theorem se_and {a b : Expr} {rest : List Expr} {ma mb : Ex} {pos : Pos} (ha : PE X a (tE X.K nm fx (ev C G ma))) (hb : PE X (.BoolOp .And (b :: rest) pos) (tE X.K nm fx (ev C G mb))) : PE X (.BoolOp .And (a :: b :: rest) pos) (tE X.K nm fx (ev C G (.and_ ma mb))) := by
  refine PEimp (pe_and ha hb) fun σ H Q h => ?_
  obtain ⟨ι, S, ρ, st, w⟩ := h
  simp only [ev] at w
  refine ⟨ι, S, ρ, st, w.bind.mono fun d S1 w1 v ι1 H1 r1 e1 p1 => ?_⟩
  cases d <;> first
    | exact False.elim w1
    | skip
  case bl c =>
    cases p1
    refine ⟨c, rfl, ?_⟩
    cases c with
    | true => exact ⟨ι1, S1, ρ, st.on r1 e1, Wg.mono w1 fun d S2 w2 => w2.on e1⟩
    | false => exact w1 _ ι1 H1 r1 e1 rfl
theorem se_or {a b : Expr} {rest : List Expr} {ma mb : Ex} {pos : Pos} (ha : PE X a (tE X.K nm fx (ev C G ma))) (hb : PE X (.BoolOp .Or (b :: rest) pos) (tE X.K nm fx (ev C G mb))) : PE X (.BoolOp .Or (a :: b :: rest) pos) (tE X.K nm fx (ev C G (.or_ ma mb))) := by
  refine PEimp (pe_or ha hb) fun σ H Q h => ?_
  obtain ⟨ι, S, ρ, st, w⟩ := h
  simp only [ev] at w
  refine ⟨ι, S, ρ, st, w.bind.mono fun d S1 w1 v ι1 H1 r1 e1 p1 => ?_⟩
  cases d <;> first
    | exact False.elim w1
    | skip
  case bl c =>
    cases p1
    refine ⟨c, rfl, ?_⟩
    cases c with
    | false => exact ⟨ι1, S1, ρ, st.on r1 e1, Wg.mono w1 fun d S2 w2 => w2.on e1⟩
    | true => exact w1 _ ι1 H1 r1 e1 rfl
theorem rof_go {op : COp} {ι1 ι2 : Io} {S1 S2 : Sto} {H1 H2 : Hp} {d d2 : D} {v v2 : V} {Q : VK} {XW : Xc → Sto → Prop} (r1 : Rel X.K nm ι1 S1 H1) (r2 : Rel X.K nm ι2 S2 H2) (e2 : Ex' ι1 H1 ι2 H2) (p1 : Rep X.K nm ι1 H1 d v) (p2 : Rep X.K nm ι2 H2 d2 v2)
    (w : Wg (cmpV op d d2 S2) (Wv X.K nm ι2 H2 Q) XW) : rOf X.K nm (cmpV op) v v2 H2 Q := ⟨ι2, S2, d, d2, r2, p1.mono r1 e2, p2, w.nox' (cmpV_nox op d d2 S2)⟩
theorem se_chn (g : Gd X nm nms C G fl fx) {a b c : Expr} {ma mb mc : Ex} {o1 o2 : COp} {pos : Pos} (ha : PE X a (tE X.K nm fx (ev C G ma))) (hb : PE X b (tE X.K nm fx (ev C G mb))) (hc : PE X c (tE X.K nm fx (ev C G mc)))
    (hm : lastMarks [o1.op, o2.op] [b, c] = false) : PE X (.Compare a [o1.op, o2.op] [b, c] pos) (tE X.K nm fx (ev C G (.chn o1 o2 ma mb mc))) := by
  have hu : X.A.units + 64 < cLine := by have := g.un; omega
  refine PEimp (pe_chain (os_cmp (nm := nm) hu o1) (os_cmp (nm := nm) hu o2) ha hb hc hm) fun σ H Q h => ?_
  obtain ⟨ι, S, ρ, st, w⟩ := h
  simp only [ev] at w
  refine ⟨ι, S, ρ, st, w.bind.mono fun d S1 w1 v ι1 H1 r1 e1 p1 => ?_⟩
  refine ⟨ι1, S1, ρ, st.on r1 e1, w1.bind.mono fun d2 S2 w2 v2 ι2 H2 r2 e2 p2 => ?_⟩
  refine rof_go r1 r2 e2 p1 p2 (w2.bind.mono fun z S3 w3 z' ι3 H3 r3 e3 p3 => ?_)
  cases z <;> first
    | exact False.elim w3
    | skip
  case bl k =>
    cases p3
    refine ⟨k, rfl, ?_⟩
    cases k with
    | true =>
      refine ⟨ι3, S3, ρ, (st.on r1 e1).on r3 (e2.trans e3), Wg.mono w3.bind fun d4 S4 w4 v4 ι4 H4 r4 e4 p4 => ?_⟩
      exact rof_go r3 r4 e4 (p2.mono r2 e3) p4 (Wg.mono w4 fun d S w => w.on (((e1.trans e2).trans e3).trans e4))
    | false => exact w3 _ ι3 H3 r3 ((e1.trans e2).trans e3) rfl
theorem se_ifx {c a b : Expr} {mc : Te} {ma mb : Ex} {pos : Pos} (hc : PT X c (tT X.K nm fx (evT C G mc))) (ha : PE X a (tE X.K nm fx (ev C G ma))) (hb : PE X b (tE X.K nm fx (ev C G mb))) : PE X (.IfExp c a b pos) (tE X.K nm fx (ev C G (.ifx mc ma mb))) := by
  refine PEimp (pe_ifExp hc ha hb) fun σ H Q h => ?_
  obtain ⟨ι, S, ρ, st, w⟩ := h
  simp only [ev] at w
  refine ⟨ι, S, ρ, st, w.bind.mono fun k S1 w1 ι1 H1 r1 e1 => ?_⟩
  cases k with
  | true => exact ⟨ι1, S1, ρ, st.on r1 e1, Wg.mono w1 fun d S2 w2 => w2.on e1⟩
  | false => exact ⟨ι1, S1, ρ, st.on r1 e1, Wg.mono w1 fun d S2 w2 => w2.on e1⟩
theorem so_none : PO X none (tO X.K nm fx (evo C G none)) := by
  refine POimp po_none fun σ H Q h => ?_
  obtain ⟨ι, S, ρ, st, w⟩ := h
  exact w ι H st.rel .refl
theorem so_some {e : Expr} {m : Ex} (h : PE X e (tE X.K nm fx (ev C G m))) : PO X (some e) (tO X.K nm fx (evo C G (some m))) := by
  refine POimp (po_some h) fun σ H Q h => ?_
  obtain ⟨ι, S, ρ, st, w⟩ := h
  simp only [evo] at w
  refine ⟨ι, S, ρ, st, w.bind.mono fun d S1 w1 v ι1 H1 r1 e1 p1 => ?_⟩
  cases d <;> first
    | exact False.elim w1
    | skip
  case int i =>
    cases p1
    exact ⟨i, rfl, w1 ι1 H1 r1 e1⟩
theorem se_sli {a : Expr} {lo hi : Option Expr} {ma : Ex} {ml mh : Option Ex} {pos p2 : Pos} (ha : PE X a (tE X.K nm fx (ev C G ma))) (hl : PO X lo (tO X.K nm fx (evo C G ml))) (hh : PO X hi (tO X.K nm fx (evo C G mh))) :
    PE X (.Subscript a (.Slice lo hi none p2) pos) (tE X.K nm fx (ev C G (.sli ma ml mh))) := by
  refine PEimp (pe_slice (ox_sli (nm := nm)) ha hl hh) fun σ H Q h => ?_
  obtain ⟨ι, S, ρ, st, w⟩ := h
  simp only [ev] at w
  refine ⟨ι, S, ρ, st, w.bind.mono fun d S1 w1 v ι1 H1 r1 e1 p1 => ?_⟩
  refine ⟨ι1, S1, ρ, st.on r1 e1, w1.bind.mono fun l S2 w2 ι2 H2 r2 e2 => ?_⟩
  refine ⟨ι2, S2, ρ, (st.on r1 e1).on r2 e2, w2.bind.mono fun h S3 w3 ι3 H3 r3 e3 => ?_⟩
  exact ⟨ι3, S3, d, r3, p1.mono r1 (e2.trans e3), (Wg.mono w3 fun d S w => w.on ((e1.trans e2).trans e3)).nox' (sliV_nox d l h S3)⟩
/-! ### calls of the text's own -/
theorem se_call (g : Gd X nm nms C G fl fx) {f : Nat} {e : Expr} {es : List Expr} {ms : List Ex} {p pos : Pos} (hf : fl.on f = true) (ha : PA X (e :: es) (tA X.K nm fx (evs C G ms))) (hg : Gl X (nms f)) (hdb : (nms f == ("__debug__" : Str)) = false)
    (he : starEach (e :: es) X.env = (false, eval e X.env) :: starEach es X.env) (hpl : (backTo pos (starEach es X.env)).any (·.1) = false) : PE X (.Call (.Name (nms f) p) (e :: es) [] pos) (tE X.K nm fx (ev C G (.call f ms))) := by
  obtain ⟨a, fd, ps, k, hm, hk, F, hr, hbd, _⟩ := g.fns f hf
  refine PEimp (pe_call F hr hg hm hk hbd .nil g.pass ha hdb he hpl) fun σ H Q h => ?_
  obtain ⟨ι, S, ρ, st, w⟩ := h
  simp only [ev] at w
  refine ⟨ι, S, ρ, st, w.bind.mono fun ds S1 w1 vs ι1 H1 r1 e1 p1 => ?_⟩
  show spF X.K nm nms (C f) (vs ++ []) H1 Q (Ew X.K nm nms fx)
  rw [List.append_nil]
  refine ⟨ι1, S1, ds, r1, p1, ?_⟩
  cases q : C f ds S1 with
  | ok d S2 =>
    rw [q] at w1
    exact Wv.on e1 w1
  | bad => rw [q] at w1; exact w1
  | exc x S2 =>
    rw [q] at w1
    exact fun cls d ι' H' r' e' xr => ⟨x, S2, ι', w1, r', (st.ext.trans e1).trans e', xr⟩
theorem se_call0 (g : Gd X nm nms C G fl fx) {f : Nat} {p pos : Pos} (hf : fl.on f = true) (hg : Gl X (nms f)) (hdb : (nms f == ("__debug__" : Str)) = false) : PE X (.Call (.Name (nms f) p) [] [] pos) (tE X.K nm fx (ev C G (.call f []))) := by
  obtain ⟨a, fd, ps, k, hm, hk, F, hr, hbd, _⟩ := g.fns f hf
  refine PEimp (pe_call0 F hr hg hm hk hbd .nil g.pass hdb) fun σ H Q h => ?_
  obtain ⟨ι, S, ρ, st, w⟩ := h
  simp only [ev, evs, R.bind_ok] at w
  refine ⟨ι, S, [], st.rel, rfl, ?_⟩
  cases q : C f [] S with
  | ok d S2 =>
    rw [q] at w
    exact w
  | bad => rw [q] at w; exact w
  | exc x S2 =>
    rw [q] at w
    exact fun cls d ι' H' r' e' xr => ⟨x, S2, ι', w, r', st.ext.trans e', xr⟩
/-! ### .. by names -/
theorem Reps.len2 {K : PySem.W.Frag} {ds : List D} {vs : List V} (r : Reps K nm ι H ds vs) : vs.length = ds.length := r.length
theorem Reps.perm {K : PySem.W.Frag} {ds : List D} {vs : List V} (r : Reps K nm ι H ds vs) : ∀ perm : List Nat, Reps K nm ι H (permL perm ds) (permL perm vs)
  | [] => rfl
  | i :: is => by
    have ih := r.perm is
    unfold permL at ih ⊢
    rw [List.filterMap_cons, List.filterMap_cons]
    cases q : ds[i]? with
    | none =>
      have : vs[i]? = none := by
        rw [List.getElem?_eq_none_iff] at q ⊢
        rw [r.length]
        exact q
      rw [this]
      exact ih
    | some d =>
      obtain ⟨v, h1, h2⟩ := r.get q
      rw [h1]
      exact ⟨v, _, rfl, h2, ih⟩
theorem PKimp {X : Cx} {e : List Keyword} {t t' : TA} (h : PK X e t) (i : ∀ σ H Q, t' σ H Q → t σ H Q) : PK X e t' := ⟨fun pos pins s σ H Q I q => h.run pos pins s σ H Q I (i _ _ _ q)⟩
theorem sk_nil : PK X [] (tA X.K nm fx (evs C G [])) := by
  refine PKimp pk_nil fun σ H Q h => ?_
  obtain ⟨ι, S, ρ, st, w⟩ := h
  exact w [] ι H st.rel .refl rfl
theorem sk_cons {x : Option Str} {kp : Pos} {e : Expr} {es : List Keyword} {m : Ex} {ms : List Ex} (h : PE X e (tE X.K nm fx (ev C G m))) (hs : PK X es (tA X.K nm fx (evs C G ms))) : PK X (⟨x, e, kp⟩ :: es) (tA X.K nm fx (evs C G (m :: ms))) := by
  refine PKimp (pk_cons h hs) fun σ H Q h => ?_
  obtain ⟨ι, S, ρ, st, w⟩ := h
  simp only [evs] at w
  refine ⟨ι, S, ρ, st, w.bind.mono fun d S1 w1 v ι1 H1 r1 e1 p1 => ?_⟩
  refine ⟨ι1, S1, ρ, st.on r1 e1, w1.bind.mono fun ds S2 w2 vs ι2 H2 r2 e2 p2 => ?_⟩
  exact w2 (v :: vs) ι2 H2 r2 (e1.trans e2) ⟨v, vs, rfl, p1.mono r1 e2, p2⟩
theorem pe_callN0 {X : Cx} {CX : CXT} {k : Nat} {f : Addr} {fd : FuncData} {ps ks : List Str} {sp : Sp} {E : XK} {x : Str} {p pos : Pos} {kws : List Keyword} {tk : TA} {g : List Value → List Value → List Value} {gV : List V → List V → List V} (F : FnOk X.prog X.w X.K X.mg X.base CX k f fd ps sp) (hr : Room k X.A) (hg : Gl X x) (hm : X.mg x = some (.ref f)) (hk : PySem.W.keepIn X.K (.ref f) = true) (hb : KBn X.K fd ps 0 ks g gV) (hx : Passes CX X E)
    (hkw : PK X kws tk) (hall : (backToKw pos (keywordEach kws X.env)).all (·.1.isSome) = true) (hks : (backToKw pos (keywordEach kws X.env)).filterMap (·.1) = ks) (hdb : (x == ("__debug__" : Str)) = false)
    (hpl : ((backTo pos (starEach [] X.env)).any (·.1) || (backToKw pos (keywordEach kws X.env)).any (·.1.isNone)) = false) :
    PE X (.Call (.Name x p) [] kws pos) (tCallN 0 ks.length sp gV E tNil tk) := by
  refine ⟨fun pins s σ H Q I h => ?_⟩
  refine wpAny_Call_Name_kw (ld_glob I hg hm ?_ hdb)
  refine PySem.W.callWith_KW0 (h₀ := X.base) I.ok.mod.kin hk hall ?_ hpl
  refine thn (hkw.run pos pins s σ H _ I h) fun ws s2 ⟨zs, H2, I2, rz, l1, l2, q2⟩ => ⟨I2.kIn, ?_⟩
  rw [hks]
  exact run_fnN (us := []) (vs := []) F hr hb hx I2 .nil rz rfl l2 q2
theorem kwNames {kws : List Keyword} {env : Env} {pos : Pos} (h : kws.all (fun k => k.arg.isSome) = true) : (backToKw pos (keywordEach kws env)).all (·.1.isSome) = true ∧ (backToKw pos (keywordEach kws env)).filterMap (·.1) = kws.filterMap (fun k => k.arg) ∧ (backToKw pos (keywordEach kws env)).any (·.1.isNone) = false := by
  induction kws with
  | nil => exact ⟨rfl, rfl, rfl⟩
  | cons k r ih =>
    obtain ⟨a, e, kp⟩ := k
    simp only [List.all_cons, Bool.and_eq_true] at h
    obtain ⟨h1, h2, h3⟩ := ih h.2
    obtain ⟨ha, _⟩ := h
    cases a with
    | none => cases ha
    | some a =>
      refine ⟨h1, ?_, h3⟩
      show a :: _ = a :: _
      rw [← h2]
      rfl
theorem evs_len {C : Nat → List D → Sto → R D} {G : Nat → Option D} : ∀ {es : List Ex} {ρ : Slo} {S : Sto} {P : List D → Sto → Prop} {XW : Xc → Sto → Prop}, Wg (evs C G es ρ S) P XW → Wg (evs C G es ρ S) (fun ds S' => ds.length = es.length ∧ P ds S') XW
  | [], ρ, S, P, XW, w => ⟨rfl, w⟩
  | e :: es, ρ, S, P, XW, w => by
    simp only [evs] at w ⊢
    cases q : ev C G e ρ S with
    | bad => rw [q] at w; exact w
    | exc x S1 => rw [q] at w; exact w
    | ok d S1 =>
      rw [q] at w
      simp only [R.bind_ok] at w ⊢
      have w2 := evs_len (P := fun ds S2 => P (d :: ds) S2) (XW := XW) (es := es) (ρ := ρ) (S := S1) (by
        cases q2 : evs C G es ρ S1 with
        | bad => rw [q2] at w; exact w
        | exc x S2 => rw [q2] at w; exact w
        | ok ds S2 => rw [q2] at w; exact w)
      cases q2 : evs C G es ρ S1 with
      | bad => rw [q2] at w2; exact w2
      | exc x S2 => rw [q2] at w2; exact w2
      | ok ds S2 => rw [q2] at w2; exact ⟨congrArg Nat.succ w2.1, w2.2⟩
theorem se_callk (g : Gd X nm nms C G fl fx) {f : Nat} {es : List Expr} {kws : List Keyword} {ms ks : List Ex} {perm : List Nat} {p pos : Pos} (hf : fl.on f = true) (hkf : fl.kw f ms.length (kws.filterMap fun k => k.arg) perm = true) (hkl : (kws.filterMap fun k => k.arg).length = ks.length) (ha : PA X es (tA X.K nm fx (evs C G ms))) (hkw : PK X kws (tA X.K nm fx (evs C G ks))) (hg : Gl X (nms f)) (hdb : (nms f == ("__debug__" : Str)) = false)
    (hnil : es = [] → ms = []) (he : ∀ e r, es = e :: r → starEach (e :: r) X.env = (false, eval e X.env) :: starEach r X.env) (hpl : (backTo pos (starEach es X.env)).any (·.1) = false) (hk : kws.all (fun k => k.arg.isSome) = true) : PE X (.Call (.Name (nms f) p) es kws pos) (tE X.K nm fx (ev C G (.callk f ms ks perm))) := by
  obtain ⟨a, fd, ps, k, hm, hkp, F, hr, hbd, hkn⟩ := g.fns f hf
  have kb := hkn.1 _ _ _ hkf
  obtain ⟨k1, k2, k3⟩ := kwNames (env := X.env) (pos := pos) hk
  have go : ∀ (σ : L2.St) (ι S ρ ι2 S2 H H2 Q ds zs vs ws), Sta X.K nm fx ι S ρ σ H → Rel X.K nm ι2 S2 H2 → Ex' ι H ι2 H2 → Reps X.K nm ι2 H2 ds vs → Reps X.K nm ι2 H2 zs ws → Wg (C f (permL perm (ds ++ zs)) S2) (Wv X.K nm ι H Q) fx.XW →
      spF X.K nm nms (C f) (permL perm (vs ++ ws)) H2 Q (Ew X.K nm nms fx) := by
    intro σ ι S ρ ι2 S2 H H2 Q ds zs vs ws st r2 e2 p2 p3 w2
    refine ⟨ι2, S2, _, r2, (p2.append p3).perm perm, ?_⟩
    cases q : C f (permL perm (ds ++ zs)) S2 with
    | ok d S3 =>
      rw [q] at w2
      exact Wv.on e2 w2
    | bad => rw [q] at w2; exact w2
    | exc x S3 =>
      rw [q] at w2
      exact fun cls d ι' H' r' e' xr => ⟨x, S3, ι', w2, r', (st.ext.trans e2).trans e', xr⟩
  cases es with
  | nil =>
    obtain rfl := hnil rfl
    refine PEimp (pe_callN0 F hr hg hm hkp kb g.pass hkw k1 k2 hdb (by rw [k3] <;> rfl)) fun σ H Q h => ?_
    obtain ⟨ι, S, ρ, st, w⟩ := h
    simp only [ev, evs, R.bind_ok, List.nil_append] at w
    refine ⟨ι, S, ρ, st, (evs_len w.bind).mono fun zs S2 ⟨hl, w2⟩ ws ι2 H2 r2 e2 p2 => ?_⟩
    refine ⟨rfl, by rw [p2.length, hl, hkl], ?_⟩
    exact go σ ι S ρ ι2 S2 H H2 Q [] zs [] ws st r2 e2 rfl p2 w2
  | cons e r =>
    refine PEimp (pe_callN F hr hg hm hkp kb g.pass ha hkw k1 k2 hdb (he e r rfl) (by rw [hpl, k3] <;> rfl)) fun σ H Q h => ?_
    obtain ⟨ι, S, ρ, st, w⟩ := h
    simp only [ev] at w
    refine ⟨ι, S, ρ, st, (evs_len w.bind).mono fun ds S1 ⟨hl1, w1⟩ vs ι1 H1 r1 e1 p1 => ?_⟩
    refine ⟨ι1, S1, ρ, st.on r1 e1, (evs_len w1.bind).mono fun zs S2 ⟨hl, w2⟩ ws ι2 H2 r2 e2 p2 => ?_⟩
    refine ⟨by rw [p1.length, hl1], by rw [p2.length, hl, hkl], ?_⟩
    exact go σ ι S ρ ι2 S2 H H2 Q ds zs vs ws st r2 (e1.trans e2) (p1.mono r1 e2) p2 w2
/-! ### rows of things -/
theorem none_of {ι1 : Io} {H1 : Hp} {p : Addr} (e1 : Ex' ι H ι1 H1) (hp : H1 p = none) (r1 : p ∉ ι1) : H p = none := by
  cases q : H p with
  | none => rfl
  | some o =>
    have hi : p ∉ ι := fun hm => by
      exact r1 (e1.mem hm)
    have := (e1.keep p o q hi).1
    rw [hp] at this
    cases this
/-- a list beside the store stands -/
theorem seq_side {ι1 : Io} {S1 : Sto} {H1 : Hp} {a : Addr} {xs : List V} {ds : List D} {g : List Nat} (r : Rel X.K nm ι1 S1 H1) (h : H1 a = some (.lst xs)) (hn : a ∉ ι1) (hx : Reps X.K nm ι1 H1 ds xs) : SeqAt X.K nm ι1 S1 H1 ⟨ds, g, false⟩ a := fun ι S H st => by
  obtain ⟨r2, e2, _⟩ := st
  exact ⟨xs, SqL.of (e2.keep a _ h hn).1, hx.mono r e2⟩
theorem sq_ex {e : Expr} {m : Ex} (h : PE X e (tE X.K nm fx (ev C G m))) : PE X e (tQ X.K nm fx (evQ C G (.ex m))) := by
  refine PEimp h fun σ H Q h => ?_
  obtain ⟨ι, S, ρ, st, w⟩ := h
  simp only [evQ] at w
  refine ⟨ι, S, ρ, st, w.bind.mono fun d S1 w1 v ι1 H1 r1 e1 p1 => ?_⟩
  cases d <;> first
    | exact False.elim w1
    | skip
  case tup ds =>
    obtain ⟨a, xs, rfl, h1, h2⟩ := p1
    exact w1 a ι1 H1 r1 e1 fun ι2 S2 H2 ⟨r2, e2, _⟩ => ⟨xs, r1.sqt e2 h1, h2.mono r1 e2⟩
  case fro ds =>
    obtain ⟨a, xs, rfl, h1, h2⟩ := p1
    exact w1 a ι1 H1 r1 e1 fun ι2 S2 H2 ⟨r2, e2, _⟩ => ⟨xs, (r1.sqz e2 h1).l, h2.mono r1 e2⟩
  case scr ds =>
    obtain ⟨a, xs, rfl, h1, h2⟩ := p1
    exact w1 a ι1 H1 r1 e1 fun ι2 S2 H2 ⟨r2, e2, _⟩ => ⟨xs, (r1.sqf e2 h1).l, h2.mono r1 e2⟩
  case ref n =>
    simp only [seqV] at w1
    split at w1
    · rename_i ds hds
      obtain ⟨a, xs, rfl, hn, h1, h2⟩ := r1.ref hds p1
      refine w1 a ι1 H1 r1 e1 fun ι2 S2 H2 ⟨r2, e2, g2⟩ => ?_
      have hd2 : S2[n]? = some (.lst ds) := (g2 n (List.mem_singleton.mpr rfl)).trans hds
      obtain ⟨b, ys, hb, h3, h4⟩ := r2.lst hd2
      rw [e2.at_ hn] at hb
      cases hb
      exact ⟨ys, SqL.of h3, h4⟩
    · exact w1.elim
theorem sq_fr {e : Expr} {m : Fr} (h : PE X e (tF X.K nm fx (evF C G m))) : PE X e (tQ X.K nm fx (evQ C G (.fr m))) := by
  refine PEimp h fun σ H Q h => ?_
  obtain ⟨ι, S, ρ, st, w⟩ := h
  simp only [evQ] at w
  refine ⟨ι, S, ρ, st, w.bind.mono fun ds S1 w1 p xs ι1 H1 r1 e1 n1 h1 i1 p1 => ?_⟩
  exact w1 p ι1 H1 r1 e1 (seq_side r1 h1 i1 p1)
theorem se_new {e : Expr} {m : Fr} (h : PE X e (tF X.K nm fx (evF C G m))) : PE X e (tE X.K nm fx (ev C G (.new m))) := by
  refine PEimp h fun σ H Q h => ?_
  obtain ⟨ι, S, ρ, st, w⟩ := h
  simp only [ev] at w
  refine ⟨ι, S, ρ, st, w.bind.mono fun ds S1 w1 p xs ι1 H1 r1 e1 n1 h1 i1 p1 => ?_⟩
  obtain ⟨r2, e2⟩ := r1.take h1 i1 p1 H ι e1 n1
  exact w1 _ _ H1 r2 e2 ⟨p, r1.last, rfl⟩
theorem se_frn {e : Expr} {m : Fr} (h : PE X e (tF X.K nm fx (evF C G m))) : PE X e (tE X.K nm fx (ev C G (.frn m))) := by
  refine PEimp h fun σ H Q h => ?_
  obtain ⟨ι, S, ρ, st, w⟩ := h
  simp only [ev] at w
  refine ⟨ι, S, ρ, st, w.bind.mono fun ds S1 w1 p xs ι1 H1 r1 e1 n1 h1 i1 p1 => ?_⟩
  obtain ⟨r2, e2⟩ := r1.frzO h1 i1 H ι e1 n1
  exact w1 _ _ H1 r2 e2 ⟨p, xs, rfl, ⟨List.mem_cons_self .., h1⟩, p1.toM (m := ι1.st.length) Io.le_frz p1.closed⟩
def Mono1 (es : List Expr) : Prop := True
/-- a built-in of one argument, a row -/
theorem sq_at {ι1 : Io} {S1 : Sto} {H1 : Hp} {sv : Sv} {a : Addr} (r : Rel X.K nm ι1 S1 H1) (h : SeqAt X.K nm ι1 S1 H1 sv a) : ∃ xs, (SqL X.K H1 a xs ∨ SqT X.K H1 a xs) ∧ (sv.tup = false → SqL X.K H1 a xs) ∧ (sv.tup = true → SqT X.K H1 a xs) ∧ Reps X.K nm ι1 H1 sv.ds xs := by
  obtain ⟨xs, h1, h2⟩ := h ι1 S1 H1 (Stb.refl r)
  cases q : sv.tup with
  | true =>
    rw [q] at h1
    exact ⟨xs, .inr h1, fun z => (nomatch z), fun _ => h1, h2⟩
  | false =>
    rw [q] at h1
    exact ⟨xs, .inl h1, fun _ => h1, fun z => (nomatch z), h2⟩
theorem pa_one {e : Expr} {t : TE} (h : PE X e t) (he : starEach [e] X.env = (false, eval e X.env) :: starEach [] X.env) : PA X [e] (tCons t tNil) := pa_cons h pa_nil he
theorem nohpl {pos : Pos} : (backTo pos (starEach [] X.env)).any (·.1) = false := rfl
theorem se_len (g : Gd X nm nms C G fl fx) {e : Expr} {m : Ex} {p pos : Pos} (h : PE X e (tE X.K nm fx (ev C G m))) (hg : Gl X "len") (he : starEach [e] X.env = (false, eval e X.env) :: starEach [] X.env) : PE X (.Call (.Name "len" p) [e] [] pos) (tE X.K nm fx (ev C G (.len m))) := by
  refine PEimp (pe_callB call_len hg (g.blt _ (by simp [blts])) PySem.boot_len (pa_one h he) (by decide) (by decide) he) fun σ H Q h => ?_
  obtain ⟨ι, S, ρ, st, w⟩ := h
  simp only [ev] at w
  refine ⟨ι, S, ρ, st, w.bind.mono fun d S1 w1 v ι1 H1 r1 e1 p1 => ?_⟩
  have nx : ∀ x S', lenV d S1 ≠ .exc x S' := fun x S' => by unfold lenV; split <;> (repeat' split) <;> exact fun q => by cases q
  obtain ⟨n, h1, h2⟩ := len_rep r1 p1 (w1.nox' nx)
  exact ⟨v, n, rfl, h1, h2 _ ι1 H1 r1 e1 rfl⟩
theorem se_lenq (g : Gd X nm nms C G fl fx) {e : Expr} {m : Sq} {p pos : Pos} (h : PE X e (tQ X.K nm fx (evQ C G m))) (hg : Gl X "len") (he : starEach [e] X.env = (false, eval e X.env) :: starEach [] X.env) : PE X (.Call (.Name "len" p) [e] [] pos) (tE X.K nm fx (ev C G (.lenq m))) := by
  refine PEimp (pe_callB call_len_seq hg (g.blt _ (by simp [blts])) PySem.boot_len (pa_one h he) (by decide) (by decide) he) fun σ H Q h => ?_
  obtain ⟨ι, S, ρ, st, w⟩ := h
  simp only [ev] at w
  refine ⟨ι, S, ρ, st, w.bind.mono fun sv S1 w1 a ι1 H1 r1 e1 p1 => ?_⟩
  obtain ⟨xs, h1, _, _, h4⟩ := sq_at r1 p1
  refine ⟨a, xs, rfl, h1, ?_⟩
  rw [h4.length]
  exact w1 _ ι1 H1 r1 e1 rfl
theorem bools_rep {ι1 : Io} {H1 : Hp} : ∀ {ds : List D} {bs : List Bool} {xs : List V}, boolsD ds = some bs → Reps X.K nm ι1 H1 ds xs → xs = bs.map V.bl
  | [], bs, xs, h, r => by cases h; cases r; rfl
  | d :: ds, bs, xs, h, r => by
    obtain ⟨v, w, rfl, h1, h2⟩ := r
    cases d <;> first
      | (cases h; done)
      | skip
    case bl b =>
      simp only [boolsD, Option.map_eq_some_iff] at h
      obtain ⟨cs, h3, rfl⟩ := h
      cases h1
      rw [bools_rep h3 h2]
      rfl
theorem strs_rep {ι1 : Io} {H1 : Hp} : ∀ {ds : List D} {bs : List (List Nat)} {xs : List V}, strsD ds = some bs → Reps X.K nm ι1 H1 ds xs → xs = (bs.map strOf).map V.str
  | [], bs, xs, h, r => by cases h; cases r; rfl
  | d :: ds, bs, xs, h, r => by
    obtain ⟨v, w, rfl, h1, h2⟩ := r
    cases d <;> first
      | (cases h; done)
      | skip
    case str b =>
      simp only [strsD, Option.map_eq_some_iff] at h
      obtain ⟨cs, h3, rfl⟩ := h
      cases h1
      rw [strs_rep h3 h2]
      rfl
theorem se_all (g : Gd X nm nms C G fl fx) {e : Expr} {m : Sq} {p pos : Pos} (h : PE X e (tQ X.K nm fx (evQ C G m))) (hg : Gl X "all") (he : starEach [e] X.env = (false, eval e X.env) :: starEach [] X.env) : PE X (.Call (.Name "all" p) [e] [] pos) (tE X.K nm fx (ev C G (.all_ m))) := by
  refine PEimp (pe_callB (cr_all g.calm) hg (g.blt _ (by simp [blts])) (by decide +kernel) (pa_one h he) (by decide) (by decide) he) fun σ H Q h => ?_
  obtain ⟨ι, S, ρ, st, w⟩ := h
  simp only [ev] at w
  refine ⟨ι, S, ρ, st, w.bind.mono fun sv S1 w1 a ι1 H1 r1 e1 p1 => ?_⟩
  obtain ⟨xs, h1, h2, _, h4⟩ := sq_at r1 p1
  split at w1
  · rename_i bs hb
    split at hb
    · cases hb
    · rename_i ht
      refine ⟨a, bs, rfl, ?_, w1 _ ι1 H1 r1 e1 rfl⟩
      rw [← bools_rep hb h4]
      exact h2 (by simpa using ht)
  · exact w1.elim
theorem se_any (g : Gd X nm nms C G fl fx) {e : Expr} {m : Sq} {p pos : Pos} (h : PE X e (tQ X.K nm fx (evQ C G m))) (hg : Gl X "any") (he : starEach [e] X.env = (false, eval e X.env) :: starEach [] X.env) : PE X (.Call (.Name "any" p) [e] [] pos) (tE X.K nm fx (ev C G (.any_ m))) := by
  refine PEimp (pe_callB (cr_any g.calm) hg (g.blt _ (by simp [blts])) (by decide +kernel) (pa_one h he) (by decide) (by decide) he) fun σ H Q h => ?_
  obtain ⟨ι, S, ρ, st, w⟩ := h
  simp only [ev] at w
  refine ⟨ι, S, ρ, st, w.bind.mono fun sv S1 w1 a ι1 H1 r1 e1 p1 => ?_⟩
  obtain ⟨xs, h1, h2, _, h4⟩ := sq_at r1 p1
  split at w1
  · rename_i bs hb
    split at hb
    · cases hb
    · rename_i ht
      refine ⟨a, bs, rfl, ?_, w1 _ ι1 H1 r1 e1 rfl⟩
      rw [← bools_rep hb h4]
      exact h2 (by simpa using ht)
  · exact w1.elim
theorem se_tupq (g : Gd X nm nms C G fl fx) {e : Expr} {m : Sq} {p pos : Pos} (h : PE X e (tQ X.K nm fx (evQ C G m))) (hg : Gl X "tuple") (he : starEach [e] X.env = (false, eval e X.env) :: starEach [] X.env) : PE X (.Call (.Name "tuple" p) [e] [] pos) (tE X.K nm fx (ev C G (.tupq m))) := by
  refine PEimp (pe_callTy call_tuple_of hg (g.blt _ (by simp [blts])) (by decide +kernel) (pa_one h he) (by decide) (by decide) he) fun σ H Q h => ?_
  obtain ⟨ι, S, ρ, st, w⟩ := h
  simp only [ev] at w
  refine ⟨ι, S, ρ, st, w.bind.mono fun sv S1 w1 a ι1 H1 r1 e1 p1 => ?_⟩
  obtain ⟨xs, h1, h2, h3, h4⟩ := sq_at r1 p1
  refine ⟨a, xs, rfl, ?_⟩
  cases q : sv.tup with
  | true => exact .inr ⟨h3 q, w1 _ ι1 H1 r1 e1 ⟨a, xs, rfl, h3 q, h4⟩⟩
  | false =>
    refine .inl ⟨h2 q, fun l hl => ?_⟩
    obtain ⟨r2, e2⟩ := r1.side (o := .tup xs) hl
    exact w1 _ ι1 _ r2 (e1.trans e2) ⟨l, xs, rfl, SqT.of upd_same, h4.mono r1 e2⟩
theorem sf_list (g : Gd X nm nms C G fl fx) {e : Expr} {m : Sq} {p pos : Pos} (h : PE X e (tQ X.K nm fx (evQ C G m))) (hg : Gl X "list") (he : starEach [e] X.env = (false, eval e X.env) :: starEach [] X.env) : PE X (.Call (.Name "list" p) [e] [] pos) (tF X.K nm fx (evF C G (.list m))) := by
  refine PEimp (pe_callTy call_list_of hg (g.blt _ (by simp [blts])) (by decide +kernel) (pa_one h he) (by decide) (by decide) he) fun σ H Q h => ?_
  obtain ⟨ι, S, ρ, st, w⟩ := h
  simp only [evF] at w
  refine ⟨ι, S, ρ, st, w.bind.mono fun sv S1 w1 a ι1 H1 r1 e1 p1 => ?_⟩
  obtain ⟨xs, h1, h2, h3, h4⟩ := sq_at r1 p1
  refine ⟨a, xs, rfl, h1, fun l hl => ?_⟩
  obtain ⟨r2, e2⟩ := r1.side (o := .lst xs) hl
  exact w1 l xs ι1 _ r2 (e1.trans e2) (none_of e1 hl (r1.free hl)) upd_same (r1.free hl) (h4.mono r1 e2)
theorem sf_cut {a : Expr} {lo hi : Option Expr} {ma : Ex} {ml mh : Option Ex} {pos p2 : Pos} (ha : PE X a (tE X.K nm fx (ev C G ma))) (hl : PO X lo (tO X.K nm fx (evo C G ml))) (hh : PO X hi (tO X.K nm fx (evo C G mh))) :
    PE X (.Subscript a (.Slice lo hi none p2) pos) (tF X.K nm fx (evF C G (.cut ma ml mh))) := by
  refine PEimp (pe_slice sl_list ha hl hh) fun σ H Q h => ?_
  obtain ⟨ι, S, ρ, st, w⟩ := h
  simp only [evF] at w
  refine ⟨ι, S, ρ, st, w.bind.mono fun d S1 w1 v ι1 H1 r1 e1 p1 => ?_⟩
  refine ⟨ι1, S1, ρ, st.on r1 e1, w1.bind.mono fun l S2 w2 ι2 H2 r2 e2 => ?_⟩
  refine ⟨ι2, S2, ρ, (st.on r1 e1).on r2 e2, w2.bind.mono fun h S3 w3 ι3 H3 r3 e3 => ?_⟩
  have fin : ∀ (ds : List D) (a : Addr) (xs : List V), v = .ref a → SqL X.K H3 a xs → Reps X.K nm ι3 H3 ds xs → (∀ p xs ι' H', Rel X.K nm ι' S3 H' → Ex' ι H ι' H' → H p = none → H' p = some (.lst xs) → p ∉ ι' → Reps X.K nm ι' H' (cutL ds l h) xs → Q (.ref p) H') → rSlL X.K v l h H3 Q := by
    rintro ds a xs rfl h1 h2 k
    refine ⟨a, xs, rfl, h1, fun p hp => ?_⟩
    obtain ⟨r4, e4⟩ := r3.side (o := .lst (L2.cutV xs l h)) hp
    exact k p _ ι3 _ r4 (((e1.trans e2).trans e3).trans e4) (none_of ((e1.trans e2).trans e3) hp (r3.free hp)) upd_same (r3.free hp) ((h2.cut l h).mono r3 e4)
  cases d <;> first
    | exact False.elim w3
    | skip
  case fro ds =>
    obtain ⟨a, xs, rfl, h1, h2⟩ := p1
    exact fin ds a xs rfl (r1.sqz (e2.trans e3) h1).l (h2.mono r1 (e2.trans e3)) w3
  case scr ds =>
    obtain ⟨a, xs, rfl, h1, h2⟩ := p1
    exact fin ds a xs rfl (r1.sqf (e2.trans e3) h1).l (h2.mono r1 (e2.trans e3)) w3
  case ref n =>
    simp only [seqV] at w3
    split at w3
    · rename_i ds hds
      obtain ⟨a, xs, rfl, _, h1, h2⟩ := r3.ref hds (p1.mono r1 (e2.trans e3))
      exact fin ds a xs rfl (SqL.of h1) h2 w3
    · exact w3.elim
end
end Pl

set_option maxHeartbeats 2000000
/-! Tests, texts, isinstance, walks, comprehensions. -/
namespace Pl
open PySem L2
section
variable {X : Cx} {nm : Nat → Addr} {nms : Nat → Str} {C : Nat → List D → Sto → R D} {G : Nat → Option D} {fl : Fl} {fx : Fx} {ι : Io} {H : Hp}
/-! ### tests -/
theorem truV_nox (d : D) (S : Sto) (x : Xc) (S' : Sto) : truV d S ≠ .exc x S' := by
  unfold truV
  split <;> (repeat' split) <;> exact fun q => by cases q
theorem st_ex {e : Expr} {m : Ex} (h : PE X e (tE X.K nm fx (ev C G m))) (he : ∀ whole, isTrue e X.env whole = (do let v ← whole; standAt e.pos; holding [v] (truthy v))) : PT X e (tT X.K nm fx (evT C G (.ex m))) := by
  refine PTimp (pt_truth h he) fun σ H Q h => ?_
  obtain ⟨ι, S, ρ, st, w⟩ := h
  simp only [evT] at w
  refine ⟨ι, S, ρ, st, w.bind.mono fun d S1 w1 v ι1 H1 r1 e1 p1 => ?_⟩
  obtain ⟨k, h1, h2⟩ := tru_rep r1 p1 (w1.nox' (truV_nox d S1))
  exact ⟨k, h1, h2 ι1 H1 r1 e1⟩
theorem st_cmp (g : Gd X nm nms C G fl fx) {a b : Expr} {ma mb : Ex} {op : COp} {pos : Pos} (ha : PE X a (tE X.K nm fx (ev C G ma))) (hb : PE X b (tE X.K nm fx (ev C G mb))) (hm : behindInMarks op.op b = false) : PT X (.Compare a [op.op] [b] pos) (tT X.K nm fx (evT C G (.cmp op ma mb))) := by
  refine PTimp (pt_cmpR (os_cmp (nm := nm) (by have := g.un; omega) op) ha hb hm) fun σ H Q h => ?_
  obtain ⟨ι, S, ρ, st, w⟩ := h
  simp only [evT] at w
  refine ⟨ι, S, ρ, st, w.bind.mono fun d S1 w1 v ι1 H1 r1 e1 p1 => ?_⟩
  refine ⟨ι1, S1, ρ, st.on r1 e1, w1.bind.mono fun d2 S2 w2 v2 ι2 H2 r2 e2 p2 => ?_⟩
  refine rof_go r1 r2 e2 p1 p2 (w2.bind.mono fun z S3 w3 z' ι3 H3 r3 e3 p3 => ?_)
  cases z <;> first
    | exact False.elim w3
    | skip
  case bl k =>
    cases p3
    exact ⟨k, rfl, w3 ι3 H3 r3 ((e1.trans e2).trans e3)⟩
theorem st_chn (g : Gd X nm nms C G fl fx) {a b c : Expr} {ma mb mc : Ex} {o1 o2 : COp} {pos : Pos} (ha : PE X a (tE X.K nm fx (ev C G ma))) (hb : PE X b (tE X.K nm fx (ev C G mb))) (hc : PE X c (tE X.K nm fx (ev C G mc)))
    (hm : lastMarks [o1.op, o2.op] [b, c] = false) : PT X (.Compare a [o1.op, o2.op] [b, c] pos) (tT X.K nm fx (evT C G (.chn o1 o2 ma mb mc))) := by
  have hu : X.A.units + 64 < cLine := by have := g.un; omega
  refine PTimp (pt_chain (os_cmp (nm := nm) hu o1) (os_cmp (nm := nm) hu o2) ha hb hc hm) fun σ H Q h => ?_
  obtain ⟨ι, S, ρ, st, w⟩ := h
  simp only [evT] at w
  refine ⟨ι, S, ρ, st, w.bind.mono fun d S1 w1 v ι1 H1 r1 e1 p1 => ?_⟩
  refine ⟨ι1, S1, ρ, st.on r1 e1, w1.bind.mono fun d2 S2 w2 v2 ι2 H2 r2 e2 p2 => ?_⟩
  refine rof_go r1 r2 e2 p1 p2 (w2.bind.mono fun z S3 w3 z' ι3 H3 r3 e3 p3 => ?_)
  cases z <;> first
    | exact False.elim w3
    | skip
  case bl k =>
    cases p3
    refine ⟨k, rfl, ?_⟩
    cases k with
    | true =>
      refine ⟨ι3, S3, ρ, (st.on r1 e1).on r3 (e2.trans e3), Wg.mono w3.bind fun d4 S4 w4 v4 ι4 H4 r4 e4 p4 => ?_⟩
      refine rof_go r3 r4 e4 (p2.mono r2 e3) p4 (w4.bind.mono fun z S5 w5 z' ι5 H5 r5 e5 p5 => ?_)
      cases z <;> first
        | exact False.elim w5
        | skip
      case bl k =>
        cases p5
        exact ⟨k, rfl, w5 ι5 H5 r5 ((((e1.trans e2).trans e3).trans e4).trans e5)⟩
    | false => exact ⟨false, rfl, w3 ι3 H3 r3 ((e1.trans e2).trans e3)⟩
theorem PWimp {e : Expr} {t t' : TT} (h : PW X e t) (i : ∀ σ H Q, t' σ H Q → t σ H Q) : PW X e t' := ⟨fun wh pins s σ H Q I q => h.run wh pins s σ H Q I (i _ _ _ q)⟩
theorem sw_and {a b : Expr} {rest : List Expr} {ma mb : Te} {pos : Pos} (ha : PT X a (tT X.K nm fx (evT C G ma))) (hb : PW X (.BoolOp .And (b :: rest) pos) (tT X.K nm fx (evT C G mb))) : PW X (.BoolOp .And (a :: b :: rest) pos) (tT X.K nm fx (evT C G (.and_ ma mb))) := by
  refine PWimp (pw_and ha hb) fun σ H Q h => ?_
  obtain ⟨ι, S, ρ, st, w⟩ := h
  simp only [evT] at w
  refine ⟨ι, S, ρ, st, w.bind.mono fun k S1 w1 ι1 H1 r1 e1 => ?_⟩
  cases k with
  | true => exact ⟨ι1, S1, ρ, st.on r1 e1, Wg.mono w1 fun d S2 w2 ι2 H2 r2 e2 => w2 ι2 H2 r2 (e1.trans e2)⟩
  | false => exact w1 ι1 H1 r1 e1
theorem sw_or {a b : Expr} {rest : List Expr} {ma mb : Te} {pos : Pos} (ha : PT X a (tT X.K nm fx (evT C G ma))) (hb : PW X (.BoolOp .Or (b :: rest) pos) (tT X.K nm fx (evT C G mb))) : PW X (.BoolOp .Or (a :: b :: rest) pos) (tT X.K nm fx (evT C G (.or_ ma mb))) := by
  refine PWimp (pw_or ha hb) fun σ H Q h => ?_
  obtain ⟨ι, S, ρ, st, w⟩ := h
  simp only [evT] at w
  refine ⟨ι, S, ρ, st, w.bind.mono fun k S1 w1 ι1 H1 r1 e1 => ?_⟩
  cases k with
  | false => exact ⟨ι1, S1, ρ, st.on r1 e1, Wg.mono w1 fun d S2 w2 ι2 H2 r2 e2 => w2 ι2 H2 r2 (e1.trans e2)⟩
  | true => exact w1 ι1 H1 r1 e1
theorem st_not {a : Expr} {ma : Te} {pos : Pos} (ha : PT X a (tT X.K nm fx (evT C G ma))) : PT X (.UnaryOp .Not a pos) (tT X.K nm fx (evT C G (.not_ ma))) := by
  refine PTimp (pt_not ha) fun σ H Q h => ?_
  obtain ⟨ι, S, ρ, st, w⟩ := h
  simp only [evT] at w
  exact ⟨ι, S, ρ, st, w.bind.mono fun k S1 w1 ι1 H1 r1 e1 => w1 ι1 H1 r1 e1⟩
/-! ### texts -/
theorem join_of (s : List Nat) : ∀ xs : List (List Nat), Txt.join (strOf s) (xs.map strOf) = strOf (joinL s xs)
  | [] => rfl
  | [x] => rfl
  | x :: y :: r => by
    have h := join_of s (y :: r)
    rw [TL.join_eq] at h ⊢
    show strOf x ++ strOf s ++ Str.join (strOf s) ((y :: r).map strOf) = _
    rw [h, strOf_app, strOf_app]
    rfl
theorem lens_of : ∀ xs : List (List Nat), ((xs.map strOf).map (·.length)).sum = (xs.map List.length).sum
  | [] => rfl
  | x :: r => by
    simp only [List.map_cons, List.sum_cons, strOf_len]
    rw [← lens_of r]
theorem se_join {o e : Expr} {mo : Ex} {m : Sq} {apos pos : Pos} (ho : PE X o (tE X.K nm fx (ev C G mo))) (h : PE X e (tQ X.K nm fx (evQ C G m))) (hs : starEach [e] X.env = [(false, eval e X.env)]) (hbase : attributeBase o "join" X.env (eval o X.env) = eval o X.env) (hline : (apos.endLine == pos.line) = true) :
    PE X (.Call (.Attribute o "join" apos) [e] [] pos) (tE X.K nm fx (ev C G (.join mo m))) := by
  refine PEimp (pe_join ho h hs hbase hline) fun σ H Q h => ?_
  obtain ⟨ι, S, ρ, st, w⟩ := h
  simp only [ev] at w
  refine ⟨ι, S, ρ, st, w.bind.mono fun d S1 w1 v ι1 H1 r1 e1 p1 => ?_⟩
  cases d <;> first
    | exact False.elim w1
    | skip
  case str t =>
  cases p1
  refine ⟨⟨_, rfl⟩, ι1, S1, ρ, st.on r1 e1, w1.bind.mono fun sv S2 w2 a ι2 H2 r2 e2 p2 => ?_⟩
  obtain ⟨xs, h1, _, _, h4⟩ := sq_at r2 p2
  split at w2
  · rename_i ys hys
    split at w2
    · rename_i hl
      refine ⟨strOf t, a, ys.map strOf, rfl, rfl, ?_, ?_, ?_⟩
      · rw [← strs_rep hys h4]
        exact h1
      · rw [lens_of, List.length_map, strOf_len]
        exact Nat.le_trans hl (by decide)
      · rw [join_of]
        exact w2 _ ι2 H2 r2 (e1.trans e2) rfl
    · exact w2.elim
  · exact w2.elim
theorem str_back (z : Str) : strOf z.cps.toList = z := by
  obtain ⟨c⟩ := z
  simp [strOf]
theorem se_part {o e : Expr} {mo m : Ex} {apos pos : Pos} (ho : PE X o (tE X.K nm fx (ev C G mo))) (h : PE X e (tE X.K nm fx (ev C G m))) (hs : starEach [e] X.env = [(false, eval e X.env)]) (hbase : attributeBase o "partition" X.env (eval o X.env) = eval o X.env) (hline : (apos.endLine == pos.line) = true) :
    PE X (.Call (.Attribute o "partition" apos) [e] [] pos) (tE X.K nm fx (ev C G (.part mo m))) := by
  refine PEimp (pe_partition ho h hs hbase hline) fun σ H Q h => ?_
  obtain ⟨ι, S, ρ, st, w⟩ := h
  simp only [ev] at w
  refine ⟨ι, S, ρ, st, w.bind.mono fun d S1 w1 v ι1 H1 r1 e1 p1 => ?_⟩
  cases d <;> first
    | exact False.elim w1
    | skip
  case str a =>
  cases p1
  refine ⟨⟨_, rfl⟩, ι1, S1, ρ, st.on r1 e1, w1.bind.mono fun d2 S2 w2 v2 ι2 H2 r2 e2 p2 => ?_⟩
  cases d2 <;> first
    | exact False.elim w2
    | skip
  case str b =>
  cases p2
  simp only at w2
  split at w2
  · exact w2.elim
  · rename_i hc
    refine ⟨strOf a, strOf b, rfl, rfl, ?_, ?_, fun p hp => ?_⟩
    · rw [strOf_len]
      simp only [beq_eq_false_iff_ne]
      omega
    · rw [strOf_len]
      exact lim_le (by omega)
    · obtain ⟨r3, e3⟩ := r2.side (o := .tup [.str (Txt.partition (strOf a) (strOf b)).1, .str (Txt.partition (strOf a) (strOf b)).2.1, .str (Txt.partition (strOf a) (strOf b)).2.2]) hp
      refine w2 _ ι2 _ r3 ((e1.trans e2).trans e3) ⟨p, _, rfl, SqT.of upd_same, ?_⟩
      exact ⟨_, _, rfl, congrArg V.str (str_back _).symm, _, _, rfl, congrArg V.str (str_back _).symm, _, _, rfl, congrArg V.str (str_back _).symm, rfl⟩
theorem se_find3 {o e f : Expr} {mo m mf : Ex} {apos pos : Pos} (ho : PE X o (tE X.K nm fx (ev C G mo))) (h : PE X e (tE X.K nm fx (ev C G m))) (hf : PE X f (tE X.K nm fx (ev C G mf)))
    (hs : starEach [e, f] X.env = (false, eval e X.env) :: starEach [f] X.env) (hs2 : starEach [f] X.env = (false, eval f X.env) :: starEach [] X.env) (hbase : attributeBase o "find" X.env (eval o X.env) = eval o X.env) (hline : (apos.endLine == pos.line) = true) :
    PE X (.Call (.Attribute o "find" apos) [e, f] [] pos) (tE X.K nm fx (ev C G (.find3 mo m mf))) := by
  refine PEimp (pe_bm PySem.F.plainAttrs_str PySem.F.slot_str_find PySem.F.type_str_find mt_find3 ho (pa_cons h (pa_cons hf pa_nil hs2) hs) hbase (by rw [hs, hs2] <;> rfl) hline hs (by rw [hs2] <;> rfl)) fun σ H Q h => ?_
  obtain ⟨ι, S, ρ, st, w⟩ := h
  simp only [ev] at w
  refine ⟨ι, S, ρ, st, w.bind.mono fun d S1 w1 v ι1 H1 r1 e1 p1 => ?_⟩
  cases d <;> first
    | exact False.elim w1
    | skip
  case str a =>
  cases p1
  refine ⟨rfl, ι1, S1, ρ, st.on r1 e1, w1.bind.mono fun d2 S2 w2 v2 ι2 H2 r2 e2 p2 => ?_⟩
  refine ⟨ι2, S2, ρ, (st.on r1 e1).on r2 e2, w2.bind.mono fun d3 S3 w3 v3 ι3 H3 r3 e3 p3 => ?_⟩
  cases d2 <;> cases d3 <;> first
    | exact False.elim w3
    | skip
  case str.int b j =>
  cases p2
  cases p3
  exact ⟨strOf a, strOf b, j, rfl, rfl, w3 _ ι3 H3 r3 ((e1.trans e2).trans e3) rfl⟩
/-! ### isinstance -/
def Ty.tn : Ty → String
  | .int => "int" | .bool => "bool" | .str => "str" | .list => "list" | .tuple => "tuple"
def tyN : D → Sto → Option String
  | .non, _ => some "NoneType" | .bl _, _ => some "bool" | .int _, _ => some "int" | .str _, _ => some "str" | .tup _, _ => some "tuple"
  | .ref n, S => match S[n]? with
    | some (.lst _) => some "list"
    | _ => none
  | _, _ => none
theorem sqt_ty {K : PySem.W.Frag} {a : Addr} {xs : List V} (h : SqT K H a xs) : TyX K H (.ref a) (.type "tuple") := by
  rcases h with (h | ⟨o, h⟩) | ⟨o, its, n, h, hc, _⟩
  · exact .base (.tup h)
  · exact .fTuple h
  · exact .kTuple h hc
theorem sqz_ty {K : PySem.W.Frag} {H : Hp} {a : Addr} {xs : List V} (h : SqZ K ι H a xs) : TyX K H (.ref a) (.type "list") := .base (.lst h.2)
theorem ty_rep {K : PySem.W.Frag} {S : Sto} {d : D} {v : V} {us : List Ty} (rel : Rel K nm ι S H) (r : Rep K nm ι H d v) (h : tyOf d S = some us) : ∃ a, TyX K H v (.type a) ∧ ∀ t : Ty, PySem.W.kitOne K (.type a) (.type t.tn) = some (us.any fun u => t.eqb u) := by
  cases d <;> first
    | (cases h; done)
    | skip
  case non => cases h; cases r; exact ⟨_, .base .non, fun t => by cases t <;> exact kit_ty (by decide +kernel)⟩
  case bl b => cases h; cases r; exact ⟨_, .base (.bl b), fun t => by cases t <;> exact kit_ty (by decide +kernel)⟩
  case int i => cases h; cases r; exact ⟨_, .base (.int i), fun t => by cases t <;> exact kit_ty (by decide +kernel)⟩
  case str z => cases h; cases r; exact ⟨_, .base (.str _), fun t => by cases t <;> exact kit_ty (by decide +kernel)⟩
  case tup ds =>
    cases h
    obtain ⟨a, xs, rfl, h1, _⟩ := r
    exact ⟨_, sqt_ty h1, fun t => by cases t <;> exact kit_ty (by decide +kernel)⟩
  case fro ds =>
    cases h
    obtain ⟨a, xs, rfl, h1, _⟩ := r
    exact ⟨_, sqz_ty h1, fun t => by cases t <;> exact kit_ty (by decide +kernel)⟩
  case ref n =>
    simp only [tyOf] at h
    split at h
    · rename_i ds hds
      cases h
      obtain ⟨a, xs, rfl, _, h1, _⟩ := rel.ref hds r
      exact ⟨_, .base (.lst h1), fun t => by cases t <;> exact kit_ty (by decide +kernel)⟩
    · cases h
theorem isV_nox (d : D) (ts : List Ty) (S : Sto) (x : Xc) (S' : Sto) : isV d ts S ≠ .exc x S' := by
  unfold isV
  split <;> exact fun q => by cases q
theorem se_isi (g : Gd X nm nms C G fl fx) {e : Expr} {m : Ex} {t : Ty} {x : Str} {p p2 pos : Pos} (h : PE X e (tE X.K nm fx (ev C G m))) (ht : PE X (.Name x p2) (tC (.ty t.tn))) (hg : Gl X "isinstance")
    (hs : starEach [e, .Name x p2] X.env = (false, eval e X.env) :: starEach [.Name x p2] X.env) : PE X (.Call (.Name "isinstance" p) [e, .Name x p2] [] pos) (tE X.K nm fx (ev C G (.isi m t))) := by
  refine PEimp (pe_callB call_isi hg (g.blt _ (by simp [blts])) (by decide +kernel) (pa_cons h (pa_cons ht pa_nil rfl) hs) (by decide) (by decide) hs rfl) fun σ H Q h => ?_
  obtain ⟨ι, S, ρ, st, w⟩ := h
  simp only [ev] at w
  refine ⟨ι, S, ρ, st, w.bind.mono fun d S1 w1 v ι1 H1 r1 e1 p1 => ?_⟩
  simp only [isV] at w1
  split at w1
  · rename_i us hus
    obtain ⟨a, h1, h2⟩ := ty_rep r1 p1 hus
    refine ⟨v, .ty t.tn, .type a, .type t.tn, _, rfl, .ty _, h1, h2 t, ?_⟩
    refine w1 _ ι1 H1 r1 e1 ?_
    simp only [List.any_cons, List.any_nil, Bool.or_false]
    rfl
  · exact w1.elim
theorem se_isi2 (g : Gd X nm nms C G fl fx) {e : Expr} {m : Ex} {t u : Ty} {x y : Str} {k : Nat} {p p2 p3 p4 pos : Pos} (h : PE X e (tE X.K nm fx (ev C G m))) (ht : PE X (.Name x p2) (tC (.ty t.tn))) (hu : PE X (.Name y p3) (tC (.ty u.tn))) (hg : Gl X "isinstance")
    (hs : starEach [e, .Tuple [.Name x p2, .Name y p3] k p4] X.env = (false, eval e X.env) :: starEach [.Tuple [.Name x p2, .Name y p3] k p4] X.env) : PE X (.Call (.Name "isinstance" p) [e, .Tuple [.Name x p2, .Name y p3] k p4] [] pos) (tE X.K nm fx (ev C G (.isi2 m t u))) := by
  refine PEimp (pe_callB call_isiT hg (g.blt _ (by simp [blts])) (by decide +kernel) (pa_cons h (pa_cons (pe_tup (pa_cons ht (pa_cons hu pa_nil rfl) rfl)) pa_nil rfl) hs) (by decide) (by decide) hs rfl) fun σ H Q h => ?_
  obtain ⟨ι, S, ρ, st, w⟩ := h
  simp only [ev] at w
  refine ⟨ι, S, ρ, st, w.bind.mono fun d S1 w1 v ι1 H1 r1 e1 p1 => ?_⟩
  refine ⟨by show 2 ≤ sizeLine; decide, fun q hq => ?_⟩
  obtain ⟨r2, e2⟩ := r1.side (o := .tup [.ty t.tn, .ty u.tn]) hq
  simp only [isV] at w1
  split at w1
  · rename_i us hus
    obtain ⟨a, h1, h2⟩ := ty_rep r2 (p1.mono r1 e2) hus
    refine ⟨v, q, [.ty t.tn, .ty u.tn], .type a, [.type t.tn, .type u.tn], _, rfl, upd_same, .cons (.ty _) (.cons (.ty _) .nil), h1, kitAny_cons (b := us.any fun z => t.eqb z) (r := (us.any fun z => t.eqb z) || (us.any fun z => u.eqb z)) (h2 t) (fun hb => ?_) (fun hb => by rw [hb] <;> rfl), ?_⟩
    · exact kitAny_cons (h2 u) (fun hb2 => by rw [hb, hb2]; exact kitAny_nil) (fun hb2 => by rw [hb2, Bool.or_true])
    · refine w1 _ ι1 _ r2 (e1.trans e2) ?_
      simp only [List.any_cons, List.any_nil, Bool.or_false]
      rfl
  · exact w1.elim
/-! ### walks -/
theorem wk_list {K : PySem.W.Frag} {sv : Sv} {ι1 : Io} {S1 : Sto} {H1 : Hp} {a : Addr} (h : SeqAt K nm ι1 S1 H1 sv a) (ht : sv.tup = false) : Wk K nm (Itl K a) sv ι1 S1 H1 := by
  have q : ∀ ι S H, Stb K nm ι1 S1 H1 sv.g ι S H → ∃ xs, SqL K H a xs ∧ Reps K nm ι H sv.ds xs := fun ι S H st => by
    obtain ⟨xs, h1, h2⟩ := h ι S H st
    rw [ht] at h1
    exact ⟨xs, h1, h2⟩
  refine ⟨fun i ι S H st hi => ?_, fun ι S H st => ?_, fun i ι S H x H' st hi y => ?_⟩
  · obtain ⟨xs, h1, h2⟩ := q ι S H st
    exact ⟨xs, xs[i]'(by rw [h2.length]; exact hi), h1, by simp⟩
  · obtain ⟨xs, h1, h2⟩ := q ι S H st
    exact ⟨xs, h1, by rw [h2.length]; exact Nat.le_refl _⟩
  · obtain ⟨xs, h1, h2⟩ := q ι S H st
    obtain ⟨rfl, y⟩ := y
    obtain ⟨d, h3, h4⟩ := h2.get' (y xs h1)
    exact ⟨d, h3, st.1, .refl, h4⟩
theorem wk_tup {K : PySem.W.Frag} {sv : Sv} {ι1 : Io} {S1 : Sto} {H1 : Hp} {a : Addr} (h : SeqAt K nm ι1 S1 H1 sv a) (ht : sv.tup = true) : Wk K nm (Itt K a) sv ι1 S1 H1 := by
  have q : ∀ ι S H, Stb K nm ι1 S1 H1 sv.g ι S H → ∃ xs, SqT K H a xs ∧ Reps K nm ι H sv.ds xs := fun ι S H st => by
    obtain ⟨xs, h1, h2⟩ := h ι S H st
    rw [ht] at h1
    exact ⟨xs, h1, h2⟩
  refine ⟨fun i ι S H st hi => ?_, fun ι S H st => ?_, fun i ι S H x H' st hi y => ?_⟩
  · obtain ⟨xs, h1, h2⟩ := q ι S H st
    exact ⟨xs, xs[i]'(by rw [h2.length]; exact hi), h1, by simp⟩
  · obtain ⟨xs, h1, h2⟩ := q ι S H st
    exact ⟨xs, h1, by rw [h2.length]; exact Nat.le_refl _⟩
  · obtain ⟨xs, h1, h2⟩ := q ι S H st
    obtain ⟨rfl, y⟩ := y
    obtain ⟨d, h3, h4⟩ := h2.get' (y xs h1)
    exact ⟨d, h3, st.1, .refl, h4⟩
/-- a list or a tuple, as it comes -/
def iSeq (K : PySem.W.Frag) (t : TE) : TI := fun σ H R => t σ H fun x H1 => ∃ a, x = .ref a ∧ (((∃ xs, SqL K H1 a xs) ∧ R (Itl K a) H1) ∨ ((∃ xs, SqT K H1 a xs) ∧ R (Itt K a) H1))
theorem pi_seq {tg l : Expr} {t : TE} (hl : PE X l t) : PI X tg l (iSeq X.K t) := ⟨fun pins s σ H R I h => by
  refine thn (hl.run pins s σ H _ I h) fun v s1 w => ?_
  obtain ⟨x, H1, I1, r1, a, e1, w⟩ := w
  subst e1
  cases r1
  have kp : Inv X pins σ H1 { s1 with heap := s1.heap.push { cls := .type "list_iterator", data := .fields #[.ref a, .int 0 0] } } := I1.kept (t' := s1.toks) fun b o q => Heap.get?_push_of_some _ q
  have kt : Inv X pins σ H1 { s1 with heap := s1.heap.push { cls := .type "tuple_iterator", data := .fields #[.ref a, .int 0 0] } } := I1.kept (t' := s1.toks) fun b o q => Heap.get?_push_of_some _ q
  have fp : ∀ b ∈ [s1.heap.objs.size], FpOk X pins H1 b := fun b hb => by
    rw [List.mem_singleton.mp hb]
    exact I1.fpOk (Nat.le_refl _) (I1.hok.fresh (Nat.le_refl _))
  rcases w with ⟨⟨xs, hq⟩, w⟩ | ⟨⟨xs, hq⟩, w⟩
  · obtain ⟨its, _, pl, _⟩ := I1.list hq
    exact wpAny_pyIter_list pl.isList ⟨_, [s1.heap.objs.size], _, _, H1, rfl, kp, turn_list a _, ⟨_, Heap.get?_push_size _ rfl, rfl, rfl⟩, fp, w⟩
  · obtain ⟨its, _, pl, _⟩ := I1.tuple hq
    exact wpAny_pyIter_tuple (show s1.heap.IsTuple a its.toArray from pl) ⟨_, [s1.heap.objs.size], _, _, H1, rfl, kt, turn_tuple a _, ⟨_, Heap.get?_push_size _ rfl, rfl, rfl⟩, fp, w⟩⟩
theorem si_sq {tg e : Expr} {m : Sq} (h : PE X e (tQ X.K nm fx (evQ C G m))) : PI X tg e (tI X.K nm fx (evI C G (.sq m))) := by
  refine PIimp (pi_seq h) fun σ H R h => ?_
  obtain ⟨ι, S, ρ, st, w⟩ := h
  simp only [evI] at w
  refine ⟨ι, S, ρ, st, w.mono fun sv S1 w1 a ι1 H1 r1 e1 p1 => ⟨a, rfl, ?_⟩⟩
  obtain ⟨xs, h1, h2⟩ := p1 ι1 S1 H1 (Stb.refl r1)
  cases q : sv.tup with
  | true =>
    rw [q] at h1
    exact .inr ⟨⟨xs, h1⟩, w1 _ ι1 H1 r1 e1 (wk_tup p1 q)⟩
  | false =>
    rw [q] at h1
    exact .inl ⟨⟨xs, h1⟩, w1 _ ι1 H1 r1 e1 (wk_list p1 q)⟩
theorem wk_fn {K : PySem.W.Frag} {J : L2.It} {sv : Sv} {ι1 : Io} {S1 : Sto} {H1 : Hp} {n : Nat} (hn : sv.ds.length = n) (go : ∀ i H, i < n → J.go i H) (stop : ∀ H, J.stop n H)
    (yld : ∀ i H x H', i < n → J.yld i H x H' → H' = H ∧ ∃ d, sv.ds[i]? = some d ∧ ∀ ι H, Rep K nm ι H d x) : Wk K nm J sv ι1 S1 H1 := by
  subst hn
  refine ⟨fun i ι S H st hi => go i H hi, fun ι S H st => stop H, fun i ι S H x H' st hi y => ?_⟩
  obtain ⟨rfl, d, h1, h2⟩ := yld i H x H' hi y
  exact ⟨d, h1, st.1, .refl, h2 _ _⟩
theorem si_str {tg e : Expr} {m : Ex} (h : PE X e (tE X.K nm fx (ev C G m))) : PI X tg e (tI X.K nm fx (evI C G (.str m))) := by
  refine PIimp (pi_str h) fun σ H R h => ?_
  obtain ⟨ι, S, ρ, st, w⟩ := h
  simp only [evI] at w
  refine ⟨ι, S, ρ, st, w.bind.mono fun d S1 w1 v ι1 H1 r1 e1 p1 => ?_⟩
  cases d <;> first
    | exact False.elim w1
    | skip
  case str z =>
    cases p1
    refine ⟨_, rfl, w1 _ ι1 H1 r1 e1 (wk_fn (n := z.length) (by simp) (fun i H hi => by show i < z.toArray.size; simpa using hi) (fun H => by show z.toArray.size ≤ z.length; simp) fun i H x H' hi y => ?_)⟩
    obtain ⟨rfl, c, h1, rfl⟩ := y
    refine ⟨rfl, .str [c], ?_, fun ι H => rfl⟩
    have h2 : z[i]? = some c := by simpa using h1
    rw [List.getElem?_map, h2]
    rfl
theorem si_rng (g : Gd X nm nms C G fl fx) {tg e : Expr} {m : Ex} {p pos : Pos} (h : PE X e (tE X.K nm fx (ev C G m))) (hg : Gl X "range") (hs : starEach [e] X.env = [(false, eval e X.env)]) : PI X tg (.Call (.Name "range" p) [e] [] pos) (tI X.K nm fx (evI C G (.rng m))) := by
  refine PIimp (pi_range1 hg (g.blt _ (by simp [blts])) (pa_cons h pa_nil hs) hs) fun σ H R h => ?_
  obtain ⟨ι, S, ρ, st, w⟩ := h
  simp only [evI] at w
  refine ⟨ι, S, ρ, st, w.bind.mono fun d S1 w1 v ι1 H1 r1 e1 p1 => ?_⟩
  cases d <;> first
    | exact False.elim w1
    | skip
  case int n =>
    cases p1
    simp only at w1
    split at w1
    · rename_i hn
      refine ⟨n, rfl, by omega, by omega, w1 _ ι1 H1 r1 e1 (wk_fn (n := n.toNat) (by simp) (fun i H hi => hi) (fun H => Nat.le_refl _) fun i H x H' hi y => ?_)⟩
      obtain ⟨rfl, rfl⟩ := y
      refine ⟨rfl, .int (i : Nat), by simp [hi], fun ι H => ?_⟩
      show V.int (0 + (i : Int)) = V.int (i : Nat)
      rw [Int.zero_add]
    · exact w1.elim
theorem si_rng2 (g : Gd X nm nms C G fl fx) {tg e f : Expr} {m mf : Ex} {p pos : Pos} (h : PE X e (tE X.K nm fx (ev C G m))) (hf : PE X f (tE X.K nm fx (ev C G mf))) (hg : Gl X "range")
    (hs : starEach [e, f] X.env = [(false, eval e X.env), (false, eval f X.env)]) (hs2 : starEach [f] X.env = [(false, eval f X.env)]) : PI X tg (.Call (.Name "range" p) [e, f] [] pos) (tI X.K nm fx (evI C G (.rng2 m mf))) := by
  refine PIimp (pi_range2 hg (g.blt _ (by simp [blts])) (pa_cons h (pa_cons hf pa_nil hs2) (by rw [hs, hs2])) hs hs2) fun σ H R h => ?_
  obtain ⟨ι, S, ρ, st, w⟩ := h
  simp only [evI] at w
  refine ⟨ι, S, ρ, st, w.bind.mono fun d S1 w1 v ι1 H1 r1 e1 p1 => ?_⟩
  refine ⟨ι1, S1, ρ, st.on r1 e1, w1.bind.mono fun d2 S2 w2 v2 ι2 H2 r2 e2 p2 => ?_⟩
  cases d <;> cases d2 <;> first
    | exact False.elim w2
    | skip
  case int.int i j =>
    cases p1
    cases p2
    simp only at w2
    split at w2
    · rename_i hn
      refine ⟨i, j, rfl, by omega, w2 _ ι2 H2 r2 (e1.trans e2) (wk_fn (n := (j - i).toNat) (by simp) (fun i H hi => hi) (fun H => Nat.le_refl _) fun k H x H' hk y => ?_)⟩
      obtain ⟨rfl, rfl⟩ := y
      exact ⟨rfl, .int (i + (k : Nat)), by simp [hk], fun ι H => rfl⟩
    · exact w2.elim
theorem pair_new {ι2 : Io} {S2 : Sto} {H2 : Hp} {T : Addr} {x y : V} {d e : D} (r : Rel X.K nm ι2 S2 H2) (hT : H2 T = none) (hx : Rep X.K nm ι2 H2 d x) (hy : Rep X.K nm ι2 H2 e y) :
    Rel X.K nm ι2 S2 (upd H2 T (.tup [x, y])) ∧ Ex' ι2 H2 ι2 (upd H2 T (.tup [x, y])) ∧ Rep X.K nm ι2 (upd H2 T (.tup [x, y])) (.tup [d, e]) (.ref T) := by
  obtain ⟨r1, e1⟩ := r.side (o := .tup [x, y]) hT
  exact ⟨r1, e1, T, _, rfl, SqT.of upd_same, x, _, rfl, hx.mono r e1, y, _, rfl, hy.mono r e1, rfl⟩
theorem si_enum (g : Gd X nm nms C G fl fx) {e : Expr} {m : Sq} {elts : List Expr} {kk : Nat} {p pos tpos : Pos} (h : PE X e (tQ X.K nm fx (evQ C G m))) (hg : Gl X "enumerate") (hs : starEach [e] X.env = [(false, eval e X.env)]) : PI X (.Tuple elts kk tpos) (.Call (.Name "enumerate" p) [e] [] pos) (tI X.K nm fx (evI C G (.enum m))) := by
  refine PIimp (pi_enum hg (g.blt _ (by simp [blts])) (pa_cons h pa_nil hs) hs) fun σ H R h => ?_
  obtain ⟨ι, S, ρ, st, w⟩ := h
  simp only [evI] at w
  refine ⟨ι, S, ρ, st, w.bind.mono fun sv S1 w1 a ι1 H1 r1 e1 p1 => ?_⟩
  split at w1
  · exact w1.elim
  · rename_i ht
    have ht' : sv.tup = false := by simpa using ht
    have q : ∀ ι S H, Stb X.K nm ι1 S1 H1 sv.g ι S H → ∃ xs, SqL X.K H a xs ∧ Reps X.K nm ι H sv.ds xs := fun ι S H st => by
      obtain ⟨xs, h1, h2⟩ := p1 ι S H st
      rw [ht'] at h1
      exact ⟨xs, h1, h2⟩
    obtain ⟨xs, h1, h2⟩ := q _ _ _ (Stb.refl r1)
    refine ⟨a, xs, rfl, h1, w1 _ ι1 H1 r1 e1 ⟨fun i ι S H st hi => ?_, fun ι S H st => ?_, fun i ι S H x H' st hi y => ?_⟩⟩
    · obtain ⟨ys, h3, h4⟩ := q ι S H st
      have hi' : i < ys.length := by
        rw [h4.length]
        simpa using hi
      exact ⟨ys, ys[i], h3, by simp⟩
    · obtain ⟨ys, h3, h4⟩ := q ι S H st
      exact ⟨ys, h3, by rw [h4.length]; simp⟩
    · obtain ⟨ys, h3, h4⟩ := q ι S H st
      obtain ⟨T, z, rfl, hT, rfl, hz⟩ := y
      obtain ⟨d, h5, h6⟩ := h4.get' (hz ys h3)
      obtain ⟨r3, e3, p3⟩ := pair_new (d := .int (i : Nat)) st.1 hT rfl h6
      have hi' : i < sv.ds.length := by simpa using hi
      refine ⟨_, ?_, r3, e3, p3⟩
      have hz2 : ((List.range sv.ds.length).zip sv.ds)[i]? = some (i, d) := List.getElem?_zip_eq_some.mpr ⟨List.getElem?_range hi', h5⟩
      rw [List.getElem?_map, hz2]
      rfl
theorem Stb.left {K : PySem.W.Frag} {ι1 : Io} {S1 : Sto} {H1 : Hp} {g g' : List Nat} {ι : Io} {S : Sto} {H : Hp} (h : Stb K nm ι1 S1 H1 (g ++ g') ι S H) : Stb K nm ι1 S1 H1 g ι S H ∧ Stb K nm ι1 S1 H1 g' ι S H :=
  ⟨⟨h.1, h.2.1, fun i hi => h.2.2 i (List.mem_append_left _ hi)⟩, ⟨h.1, h.2.1, fun i hi => h.2.2 i (List.mem_append_right _ hi)⟩⟩
theorem grd_some {α : Type} {g : List Nat} {S S' : Sto} {r : R α} {P : α → Sto → Prop} {XW : Xc → Sto → Prop} (w : Wg (grd g S S' r) P XW) : (∀ i ∈ g, S'[i]? = S[i]?) ∧ Wg r P XW := by
  unfold grd at w
  split at w
  · exact ⟨by assumption, w⟩
  · exact w.elim
theorem si_zip (g : Gd X nm nms C G fl fx) {e f : Expr} {m mf : Sq} {elts : List Expr} {kk : Nat} {p pos tpos : Pos} (h : PE X e (tQ X.K nm fx (evQ C G m))) (hf : PE X f (tQ X.K nm fx (evQ C G mf))) (hg : Gl X "zip")
    (hs : starEach [e, f] X.env = (false, eval e X.env) :: starEach [f] X.env) (hs2 : starEach [f] X.env = [(false, eval f X.env)]) : PI X (.Tuple elts kk tpos) (.Call (.Name "zip" p) [e, f] [] pos) (tI X.K nm fx (evI C G (.zip m mf))) := by
  refine PIimp (RZ.pi_zipA hg (g.blt _ (by simp [blts])) (pa_cons h (pa_cons hf pa_nil hs2) hs) hs (by rw [hs2] <;> rfl)) fun σ H R h => ?_
  obtain ⟨ι, S, ρ, st, w⟩ := h
  simp only [evI] at w
  refine ⟨ι, S, ρ, st, w.bind.mono fun sv S1 w1 a ι1 H1 r1 e1 p1 => ?_⟩
  refine ⟨ι1, S1, ρ, st.on r1 e1, w1.bind.mono fun sw S2 w2 b ι2 H2 r2 e2 p2 => ?_⟩
  obtain ⟨hgd, w2⟩ := grd_some w2
  have p1' : SeqAt X.K nm ι2 S2 H2 sv a := fun ι S H ⟨r, e, gs⟩ => p1 ι S H ⟨r, e2.trans e, fun i hi => (gs i hi).trans (hgd i hi)⟩
  split at w2
  · rename_i ht
    have e12 := e1.trans e2
    have zg : ∀ (i : Nat) (d d2 : D), sv.ds[i]? = some d → sw.ds[i]? = some d2 → ((sv.ds.zip sw.ds).map fun xy => D.tup [xy.1, xy.2])[i]? = some (.tup [d, d2]) := fun i d d2 h1 h2 => by
      have hz2 : (sv.ds.zip sw.ds)[i]? = some (d, d2) := List.getElem?_zip_eq_some.mpr ⟨h1, h2⟩
      rw [List.getElem?_map, hz2]
      rfl
    cases q : sv.tup with
    | false =>
      have q2 : sw.tup = false := ht ▸ q
      have at1 : ∀ ι S H, Stb X.K nm ι2 S2 H2 sv.g ι S H → ∃ xs, SqL X.K H a xs ∧ Reps X.K nm ι H sv.ds xs := fun ι S H st => by
        obtain ⟨xs, h1, h2⟩ := p1' ι S H st
        rw [q] at h1
        exact ⟨xs, h1, h2⟩
      have at2 : ∀ ι S H, Stb X.K nm ι2 S2 H2 sw.g ι S H → ∃ xs, SqL X.K H b xs ∧ Reps X.K nm ι H sw.ds xs := fun ι S H st => by
        obtain ⟨xs, h1, h2⟩ := p2 ι S H st
        rw [q2] at h1
        exact ⟨xs, h1, h2⟩
      obtain ⟨xs, h1, h2⟩ := at1 _ _ _ (Stb.refl r2)
      obtain ⟨ys, h3, h4⟩ := at2 _ _ _ (Stb.refl r2)
      refine ⟨a, b, xs, ys, rfl, .inl ⟨h1, h3, w2 _ ι2 H2 r2 e12 ⟨fun i ι S H st hi => ?_, fun ι S H st => ?_, fun i ι S H x H' st hi y => ?_⟩⟩⟩
      · obtain ⟨st1, st2⟩ := st.left
        obtain ⟨us, h5, h6⟩ := at1 _ _ _ st1
        obtain ⟨vs, h7, h8⟩ := at2 _ _ _ st2
        have hi' : i < sv.ds.length ∧ i < sw.ds.length := by simpa [Nat.lt_min] using hi
        have hu : i < us.length := by rw [h6.length]; exact hi'.1
        have hv : i < vs.length := by rw [h8.length]; exact hi'.2
        exact ⟨us, vs, us[i], vs[i], h5, h7, by simp, by simp⟩
      · obtain ⟨st1, st2⟩ := st.left
        obtain ⟨us, h5, h6⟩ := at1 _ _ _ st1
        obtain ⟨vs, h7, h8⟩ := at2 _ _ _ st2
        refine ⟨us, vs, h5, h7, ?_⟩
        rw [h6.length, h8.length]
        simp only [List.length_map, List.length_zip]
        omega
      · obtain ⟨st1, st2⟩ := st.left
        obtain ⟨us, h5, h6⟩ := at1 _ _ _ st1
        obtain ⟨vs, h7, h8⟩ := at2 _ _ _ st2
        obtain ⟨T, z, z2, rfl, hT, rfl, hz, hz2⟩ := y
        obtain ⟨d, h9, h10⟩ := h6.get' (hz us h5)
        obtain ⟨d2, h11, h12⟩ := h8.get' (hz2 vs h7)
        obtain ⟨r3, e3, p3⟩ := pair_new st.1 hT h10 h12
        exact ⟨_, zg i d d2 h9 h11, r3, e3, p3⟩
    | true =>
      have q2 : sw.tup = true := ht ▸ q
      have at1 : ∀ ι S H, Stb X.K nm ι2 S2 H2 sv.g ι S H → ∃ xs, SqT X.K H a xs ∧ Reps X.K nm ι H sv.ds xs := fun ι S H st => by
        obtain ⟨xs, h1, h2⟩ := p1' ι S H st
        rw [q] at h1
        exact ⟨xs, h1, h2⟩
      have at2 : ∀ ι S H, Stb X.K nm ι2 S2 H2 sw.g ι S H → ∃ xs, SqT X.K H b xs ∧ Reps X.K nm ι H sw.ds xs := fun ι S H st => by
        obtain ⟨xs, h1, h2⟩ := p2 ι S H st
        rw [q2] at h1
        exact ⟨xs, h1, h2⟩
      obtain ⟨xs, h1, h2⟩ := at1 _ _ _ (Stb.refl r2)
      obtain ⟨ys, h3, h4⟩ := at2 _ _ _ (Stb.refl r2)
      refine ⟨a, b, xs, ys, rfl, .inr ⟨h1, h3, w2 _ ι2 H2 r2 e12 ⟨fun i ι S H st hi => ?_, fun ι S H st => ?_, fun i ι S H x H' st hi y => ?_⟩⟩⟩
      · obtain ⟨st1, st2⟩ := st.left
        obtain ⟨us, h5, h6⟩ := at1 _ _ _ st1
        obtain ⟨vs, h7, h8⟩ := at2 _ _ _ st2
        have hi' : i < sv.ds.length ∧ i < sw.ds.length := by simpa [Nat.lt_min] using hi
        have hu : i < us.length := by rw [h6.length]; exact hi'.1
        have hv : i < vs.length := by rw [h8.length]; exact hi'.2
        exact ⟨us, vs, us[i], vs[i], h5, h7, by simp, by simp⟩
      · obtain ⟨st1, st2⟩ := st.left
        obtain ⟨us, h5, h6⟩ := at1 _ _ _ st1
        obtain ⟨vs, h7, h8⟩ := at2 _ _ _ st2
        refine ⟨us, vs, h5, h7, ?_⟩
        rw [h6.length, h8.length]
        simp only [List.length_map, List.length_zip]
        omega
      · obtain ⟨st1, st2⟩ := st.left
        obtain ⟨us, h5, h6⟩ := at1 _ _ _ st1
        obtain ⟨vs, h7, h8⟩ := at2 _ _ _ st2
        obtain ⟨T, z, z2, rfl, hT, rfl, hz, hz2⟩ := y
        obtain ⟨d, h9, h10⟩ := h6.get' (hz us h5)
        obtain ⟨d2, h11, h12⟩ := h8.get' (hz2 vs h7)
        obtain ⟨r3, e3, p3⟩ := pair_new st.1 hT h10 h12
        exact ⟨_, zg i d d2 h9 h11, r3, e3, p3⟩
  · exact w2.elim
/-! ### targets -/
theorem wipe_set {σ : L2.St} {i : Nat} {x : Option V} : ∀ {ws : List Nat}, i ∈ ws → wipe (σ.set i x) ws = wipe σ ws
  | [], h => nomatch h
  | w :: ws, h => by
    unfold wipe
    by_cases hi : i ∈ ws
    · rw [wipe_set hi]
    · have e : i = w := by
        rcases List.mem_cons.mp h with e | e
        · exact e
        · exact absurd e hi
      subst e
      have aux : ∀ {vs : List Nat}, i ∉ vs → wipe (σ.set i x) vs = (wipe σ vs).set i x := by
        intro vs
        induction vs with
        | nil => intro _; rfl
        | cons v vs ih =>
          intro hn
          unfold wipe
          rw [ih fun hm => hn (List.mem_cons_of_mem _ hm), List.set_comm _ _ fun e => hn (by rw [e]; exact List.mem_cons_self)]
      rw [aux hi, List.set_set]
def gAll : List Nat → TGs
  | [] => gNil
  | i :: is => gCons (gName i) (gAll is)
/-- a target's reading -/
def gTg (K : PySem.W.Frag) (tg : List Nat) : Bool → TG
  | false => gName (tg.headD 0)
  | true => gTup K tg.length (gAll tg)
theorem slo_set {K : PySem.W.Frag} {ρ : Slo} {σ : L2.St} {i : Nat} {d : D} {v : V} (hl : ρ.length = σ.length) (h : ∀ (i : Nat) (d : D), ρ[i]? = some (some d) → ∃ v, σ[i]? = some (some v) ∧ Rep K nm ι H d v) (r : Rep K nm ι H d v) :
    (ρ.set i (some d)).length = (σ.set i (some v)).length ∧ ∀ (j : Nat) (e : D), (ρ.set i (some d))[j]? = some (some e) → ∃ v', (σ.set i (some v))[j]? = some (some v') ∧ Rep K nm ι H e v' := by
  refine ⟨by simp [hl], fun j e h2 => ?_⟩
  by_cases hj : i = j
  · subst hj
    by_cases hi : i < ρ.length
    · rw [List.getElem?_set_self hi] at h2
      cases h2
      exact ⟨v, List.getElem?_set_self (by rw [← hl]; exact hi), r⟩
    · rw [List.getElem?_eq_none (by simpa using hi)] at h2
      cases h2
  · rw [List.getElem?_set_ne hj] at h2
    rw [List.getElem?_set_ne hj]
    exact h j e h2
theorem Sta.set {ρ : Slo} {σ : L2.St} {S : Sto} {i : Nat} {d : D} {v : V} (st : Sta X.K nm fx ι S ρ σ H) (r : Rep X.K nm ι H d v) : Sta X.K nm fx ι S (ρ.set i (some d)) (σ.set i (some v)) H := by
  obtain ⟨h1, h2⟩ := slo_set (i := i) st.len st.slo r
  exact ⟨st.rel, st.ext, h1, h2⟩
theorem all_go {ds : List D} : ∀ {tg : List Nat} {xs : List V} {ρ ρ' : Slo} {σ : L2.St} {S : Sto} {Q : L2.St → Hp → Prop}, Sta X.K nm fx ι S ρ σ H → Reps X.K nm ι H ds xs → setAll tg ds ρ = some ρ' →
    (∀ σ', Sta X.K nm fx ι S ρ' σ' H → (∀ ws : List Nat, (∀ i ∈ tg, i ∈ ws) → wipe σ' ws = wipe σ ws) → Q σ' H) → gAll tg xs σ H Q := by
  induction ds with
  | nil =>
    intro tg xs ρ ρ' σ S Q st r h k
    cases r
    cases tg with
    | nil => cases h; exact ⟨rfl, k σ st fun _ _ => rfl⟩
    | cons i is => cases h
  | cons d ds ih =>
    intro tg xs ρ ρ' σ S Q st r h k
    obtain ⟨v, w, rfl, h1, h2⟩ := r
    cases tg with
    | nil => cases h
    | cons i is =>
      refine ⟨v, w, rfl, ih (st.set h1) h2 h fun σ' st' hw => k σ' st' fun ws hm => ?_⟩
      rw [hw ws fun j hj => hm j (List.mem_cons_of_mem _ hj)]
      exact wipe_set (hm i List.mem_cons_self)
end
end Pl

set_option maxHeartbeats 2000000
/-! Comprehensions and statements. -/
namespace Pl
open PySem L2
section
variable {X : Cx} {nm : Nat → Addr} {nms : Nat → Str} {C : Nat → List D → Sto → R D} {G : Nat → Option D} {fl : Fl} {fx : Fx} {ι : Io} {S : Sto} {H : Hp}
theorem Rel.sidePutO {K : PySem.W.Frag} (r : Rel K nm ι S H) {p : Addr} {u v : HO} (hp : H p = some u) (h1' : ∀ xs, u ≠ .tup xs) (h2' : ∀ o w, u ≠ .frz o w) (hi : p ∉ ι) : Rel K nm ι S (upd H p v) ∧ (∀ {d : D} {w : V}, Rep K nm ι H d w → Rep K nm ι (upd H p v) d w) ∧ ∀ {ds : List D} {vs : List V}, Reps K nm ι H ds vs → Reps K nm ι (upd H p v) ds vs := by
  have ht : ∀ a zs, SqT K H a zs → SqT K (upd H p v) a zs := fun a zs h => by
    rcases h with (h | ⟨o, h⟩) | h
    · refine .inl (.inl ?_)
      rw [upd_ne (fun e => by subst e; rw [hp] at h; exact h1' _ (Option.some.inj h))]
      exact h
    · refine .inl (.inr ⟨o, ?_⟩)
      rw [upd_ne (fun e => by subst e; rw [hp] at h; exact h2' _ _ (Option.some.inj h))]
      exact h
    · exact .inr h
  have hf : ∀ a zs, SqF K H a zs → SqF K (upd H p v) a zs := fun a zs h => by
    rcases h with ⟨o, h⟩ | h
    · refine .inl ⟨o, ?_⟩
      rw [upd_ne (fun e => by subst e; rw [hp] at h; exact h2' _ _ (Option.some.inj h))]
      exact h
    · exact .inr h
  obtain ⟨hi1, hi2⟩ := Io.nmem.mp hi
  have hz : ∀ a ∈ ι.fz, a ∈ ι.fz ∧ upd H p v a = H a := fun a ha => ⟨ha, upd_ne fun e => hi2 (by rw [← e]; exact ha)⟩
  have le : Io.Le K ι.st.length ι H ι (upd H p v) := ⟨fun _ _ _ z => z, ht, hf, hz⟩
  refine ⟨⟨r.len, r.nd, r.dj, fun a ha => by rw [(hz a ha).2]; exact r.tr a ha, fun i a o h1 h2 => ?_⟩, fun h => Rep.toM le h.closed h, fun h => Reps.toM le h.closed h⟩
  obtain ⟨w, q1, q2⟩ := r.ob i a o h1 h2
  have ha : a ≠ p := fun e => hi1 (by rw [← e]; exact List.mem_of_getElem? h1)
  exact ⟨w, by rw [upd_ne ha]; exact q1, q2.toM le q2.closed⟩
theorem Rel.sidePut {K : PySem.W.Frag} (r : Rel K nm ι S H) {p : Addr} {xs ys : List V} (hp : H p = some (.lst xs)) (hi : p ∉ ι) : Rel K nm ι S (upd H p (.lst ys)) ∧ ∀ {ds : List D} {vs : List V}, Reps K nm ι H ds vs → Reps K nm ι (upd H p (.lst ys)) ds vs :=
  have q := r.sidePutO (v := .lst ys) hp (fun _ z => by cases z) (fun _ _ z => by cases z) hi
  ⟨q.1, q.2.2⟩
theorem wipe_in {σ : L2.St} {i : Nat} : ∀ {vs : List Nat}, i ∈ vs → (wipe σ vs)[i]? = (σ[i]?).map fun _ => none
  | [], h => nomatch h
  | v :: vs, h => by
    unfold wipe
    by_cases e : v = i
    · subst e
      by_cases hl : v < (wipe σ vs).length
      · have hl2 : v < σ.length := by rw [wipe_length] at hl; exact hl
        rw [List.getElem?_set_self hl, List.getElem?_eq_getElem hl2]
        rfl
      · have hl2 : ¬ v < σ.length := by rw [wipe_length] at hl; exact hl
        rw [List.getElem?_eq_none (by simpa using hl), List.getElem?_eq_none (by omega)]
        rfl
    · rw [List.getElem?_set_ne e]
      rcases List.mem_cons.mp h with q | q
      · exact absurd q.symm e
      · exact wipe_in q
theorem wipe_idem {σ : L2.St} {vs : List Nat} : wipe (wipe σ vs) vs = wipe σ vs := by
  apply List.ext_getElem?
  intro i
  by_cases h : i ∈ vs
  · rw [wipe_in h, wipe_in h]
    cases σ[i]? <;> rfl
  · rw [wipe_out h]
theorem wipeD_len (ρ : Slo) : ∀ vs : List Nat, (wipeD ρ vs).length = ρ.length
  | [] => rfl
  | v :: vs => by unfold wipeD; rw [List.length_set, wipeD_len ρ vs]
theorem wipeD_some {ρ : Slo} {i : Nat} {d : D} : ∀ {vs : List Nat}, (wipeD ρ vs)[i]? = some (some d) → ρ[i]? = some (some d) ∧ i ∉ vs
  | [], h => ⟨h, fun q => nomatch q⟩
  | v :: vs, h => by
    unfold wipeD at h
    by_cases e : v = i
    · subst e
      by_cases hl : v < (wipeD ρ vs).length
      · rw [List.getElem?_set_self hl] at h; cases h
      · rw [List.getElem?_eq_none (by simpa using hl)] at h; cases h
    · rw [List.getElem?_set_ne e] at h
      obtain ⟨h1, h2⟩ := wipeD_some h
      exact ⟨h1, fun q => by
        rcases List.mem_cons.mp q with q | q
        · exact e q.symm
        · exact h2 q⟩
theorem Sta.wipe {ρ : Slo} {σ : L2.St} (st : Sta X.K nm fx ι S ρ σ H) (vs : List Nat) : Sta X.K nm fx ι S (wipeD ρ vs) (L2.wipe σ vs) H :=
  ⟨st.rel, st.ext, by rw [wipeD_len, wipe_length, st.len], fun i d h => by
    obtain ⟨h1, h2⟩ := wipeD_some h
    obtain ⟨v, h3, h4⟩ := st.slo i d h1
    exact ⟨v, by rw [wipe_out h2]; exact h3, h4⟩⟩
theorem Sta.nox {ρ : Slo} {σ : L2.St} (st : Sta X.K nm fx ι S ρ σ H) : Sta X.K nm fx.nox ι S ρ σ H := ⟨st.rel, st.ext, st.len, st.slo⟩
/-- a target takes a thing -/
theorem tg_go {ρ ρ' : Slo} {σ : L2.St} {d : D} {v : V} {tg : List Nat} {pat : Bool} {Q : L2.St → Hp → Prop} (st : Sta X.K nm fx ι S ρ σ H) (r : Rep X.K nm ι H d v) (h : bindTg tg pat d ρ = some ρ')
    (k : ∀ σ', Sta X.K nm fx ι S ρ' σ' H → (∀ ws : List Nat, (∀ i ∈ tg, i ∈ ws) → wipe σ' ws = wipe σ ws) → Q σ' H) : gTg X.K tg pat v σ H Q := by
  cases pat with
  | false =>
    simp only [bindTg] at h
    split at h
    · rename_i i
      cases h
      exact k _ (st.set r) fun ws hm => wipe_set (hm i (by simp))
    · cases h
  | true =>
    cases d <;> first
      | (cases h; done)
      | skip
    case tup ds =>
      obtain ⟨a, xs, rfl, h1, h2⟩ := r
      have hl : ∀ (ds : List D) (tg : List Nat) (ρ : Slo), setAll tg ds ρ = some ρ' → ds.length = tg.length := by
        intro ds
        induction ds with
        | nil => intro tg ρ h; cases tg with
          | nil => rfl
          | cons _ _ => cases h
        | cons d ds ih => intro tg ρ h; cases tg with
          | nil => cases h
          | cons i is => simp [ih is _ h]
      exact ⟨a, xs, rfl, h1, by rw [h2.length]; exact hl ds tg ρ h, all_go st h2 h k⟩
/-- what a list comprehension asks -/
theorem lc_read {tgs : List Nat} {pat : Bool} {mi : It} {cond : Option Te} {melt : Ex} {own : List (Str × Nat)} {σ : L2.St} {Q : VK} (hown : ∀ i ∈ tgs, i ∈ own.map (·.2)) (h : tF X.K nm fx (evF C G (.lc own tgs pat mi cond melt)) σ H Q) :
    tLc (tI X.K nm fx (evI C G mi)) (gTg X.K tgs pat) (tT X.K nm fx.nox (evto C G cond)) (tE X.K nm fx.nox (ev C G melt)) (own.map (·.2)) σ H Q := by
  obtain ⟨ι, S, ρ, st, w⟩ := h
  simp only [evF] at w
  refine ⟨ι, S, ρ, st, w.bind.mono fun sv S1 w1 J ι1 H1 r1 e1 wk Dl hD => ?_⟩
  split at w1
  case isFalse => exact w1.elim
  rename_i hlim
  generalize hf : (fun (d : D) (S2 : Sto) => match bindTg tgs pat d (wipeD ρ (own.map Prod.snd)) with
        | some ρ1 => (evto C G cond ρ1 S2).bind fun k S3 => match k with
          | true => (ev C G melt ρ1 S3).bind fun x S4 => .ok (some x) S4
          | false => .ok none S3
        | none => .bad) = f at w1
  refine ⟨fun i m Hc => m = sv.ds.length - i ∧ i ≤ sv.ds.length ∧ ∃ ιc Sc done xs, Stb X.K nm ι1 S1 H1 sv.g ιc Sc Hc ∧ Hc Dl = some (.lst xs) ∧ Dl ∉ ιc ∧ Reps X.K nm ιc Hc done xs ∧ done.length ≤ i ∧
    Wg (lcL sv.g f (sv.ds.drop i) Sc) (fun ds S' => ∀ p xs ι' H', Rel X.K nm ι' S' H' → Ex' ι H ι' H' → H p = none → H' p = some (.lst xs) → p ∉ ι' → Reps X.K nm ι' H' (done ++ ds) xs → Q (.ref p) H') fx.XW, ?_, ?_⟩
  · obtain ⟨r2, e2⟩ := r1.side (o := .lst []) hD
    exact ⟨_, rfl, Nat.zero_le _, ι1, S1, [], [], ⟨r2, e2, fun _ _ => rfl⟩, upd_same, r1.free hD, rfl, Nat.le_refl _, by simpa using w1⟩
  · rintro i m Hc ⟨rfl, hi, ιc, Sc, done, xs, sb, hxs, hni, hrd, hdl, wl⟩
    by_cases hlt : i < sv.ds.length
    · refine .inr ⟨wk.goes i ιc Sc Hc sb hlt, _, fun H' n => ⟨sv.ds.length - (i + 1), by omega, n⟩, fun x H' y => ?_⟩
      · obtain ⟨d, hd, r3, e3, p3⟩ := wk.yields i ιc Sc Hc x H' sb hlt y
        have hdrop : sv.ds.drop i = d :: sv.ds.drop (i + 1) := by
          rw [List.drop_eq_getElem_cons hlt]
          rw [List.getElem?_eq_getElem hlt] at hd
          rw [Option.some.inj hd]
        rw [hdrop] at wl
        simp only [lcL] at wl
        have w3 := wl.bind.ofNox
        have hfd : f d Sc = (match bindTg tgs pat d (wipeD ρ (own.map Prod.snd)) with
          | some ρ1 => (evto C G cond ρ1 Sc).bind fun k S3 => match k with
            | true => (ev C G melt ρ1 S3).bind fun x S4 => .ok (some x) S4
            | false => .ok none S3
          | none => .bad) := by rw [← hf]
        rw [hfd] at w3
        cases hb : bindTg tgs pat d (wipeD ρ (own.map Prod.snd)) with
        | none => rw [hb] at w3; exact w3.elim
        | some ρ1 =>
          rw [hb] at w3
          simp only at w3
          have st3 : Sta X.K nm fx.nox ιc Sc (wipeD ρ (own.map Prod.snd)) (wipe σ (own.map (·.2))) H' := (((st.on r1 e1).on r3 (sb.2.1.trans e3)).wipe _).nox
          have hx1 : H' Dl = some (.lst xs) ∧ Dl ∉ ιc := e3.keep Dl _ hxs hni
          refine tg_go st3 p3 hb fun σ' st4 hw => ⟨?_, ?_⟩
          · rw [hw _ hown, wipe_idem]
          · refine ⟨ιc, Sc, ρ1, st4, w3.bind.mono fun k S4 w4 ι4 H4 r4 e4 => ?_⟩
            have base4 : Ex' ι1 H1 ι4 H4 := (sb.2.1.trans e3).trans e4
            obtain ⟨hx4, hn4⟩ := e4.keep Dl _ hx1.1 hx1.2
            cases k with
            | false =>
              show (if false = true then _ else _)
              rw [if_neg Bool.false_ne_true]
              obtain ⟨hg, w5⟩ := grd_some w4
              have w5 := w5.bind
              refine ⟨rfl, hlt, ι4, S4, done, xs, ⟨r4, base4, fun j hj => (hg j hj).trans (sb.2.2 j hj)⟩, hx4, hn4, hrd.mono sb.1 (e3.trans e4), by omega, w5.mono fun ds S' q => q⟩
            | true =>
              show (if true = true then _ else _)
              rw [if_pos rfl]
              refine ⟨ι4, S4, ρ1, st4.on r4 e4, w4.bind.mono fun y S5 w5 v ι5 H5 r5 e5 p5 => ?_⟩
              obtain ⟨hx5, hn5⟩ := e5.keep Dl _ hx4 hn4
              obtain ⟨hg, w6⟩ := grd_some w5
              have w6 := w6.bind
              have hl : xs.length < sizeLine := by
                rw [hrd.length]
                exact Nat.lt_of_lt_of_le (Nat.lt_of_le_of_lt hdl hlt) (lim_le hlim)
              obtain ⟨r6, mo⟩ := r5.sidePut (ys := xs ++ [v]) hx5 hn5
              have rd5 : Reps X.K nm ι5 H5 (done ++ [y]) (xs ++ [v]) := (hrd.mono sb.1 ((e3.trans e4).trans e5)).append ⟨v, [], rfl, p5, rfl⟩
              have base6 : Ex' ι1 H1 ι5 (upd H5 Dl (.lst (xs ++ [v]))) := by
                have b5 := base4.trans e5
                refine ⟨b5.pre, fun b hb => ⟨(b5.fzs b hb).1, ?_⟩, fun b o hb2 hn => ?_⟩
                · rw [upd_ne (fun e => (Io.nmem.mp hn5).2 (by rw [← e]; exact (b5.fzs b hb).1))]
                  exact (b5.fzs b hb).2
                obtain ⟨z1, z2⟩ := b5.keep b o hb2 hn
                refine ⟨?_, z2⟩
                rw [upd_ne (ne_of_none hb2 hD)]
                exact z1
              refine ⟨xs, hx5, hl, rfl, hlt, ι5, S5, done ++ [y], xs ++ [v], ⟨r6, base6, fun j hj => (hg j hj).trans (sb.2.2 j hj)⟩, upd_same, hn5, mo rd5, by simp; omega, w6.mono fun ds S' q => ?_⟩
              intro p zs ι' H' a1 a2 a3 a4 a5 a6
              refine q p zs ι' H' a1 a2 a3 a4 a5 ?_
              simpa using a6
    · have e : i = sv.ds.length := by omega
      subst e
      refine .inl ⟨wk.stops ιc Sc Hc sb, ?_⟩
      rw [List.drop_length] at wl
      have wl' : ∀ p xs ι' H', Rel X.K nm ι' Sc H' → Ex' ι H ι' H' → H p = none → H' p = some (.lst xs) → p ∉ ι' → Reps X.K nm ι' H' (done ++ []) xs → Q (.ref p) H' := wl
      refine wl' Dl xs ιc Hc sb.1 (e1.trans sb.2.1) (none_of e1 hD (r1.free hD)) hxs hni ?_
      rw [List.append_nil]
      exact hrd
theorem sf_lc (g : Gd X nm nms C G fl fx) {elt tg iter : Expr} {ifs : List Expr} {scope : Scope} {own : List (Str × Nat)} {pos : Pos} {mi : It} {tgs : List Nat} {pat : Bool} {cond : Option Te} {melt : Ex}
    (hi : PI X tg iter (tI X.K nm fx (evI C G mi))) (ok : BlkOk X.N X.env.scope scope own)
    (hg : ∀ (s : Shared) (H : Hp) (c : Addr) (cl : List (Str × Addr)) (fp : List Addr), PG (X.blk s H scope (compEnvC scope cl c X.env) fp) tg (gTg X.K tgs pat))
    (ht : ∀ (s : Shared) (H : Hp) (c : Addr) (cl : List (Str × Addr)) (fp : List Addr), PTs (X.blk s H scope (compEnvC scope cl c X.env) fp) ifs (tT X.K nm fx.nox (evto C G cond)))
    (he : ∀ (s : Shared) (H : Hp) (c : Addr) (cl : List (Str × Addr)) (fp : List Addr), PE (X.blk s H scope (compEnvC scope cl c X.env) fp) elt (tE X.K nm fx.nox (ev C G melt)))
    (hown : ∀ i ∈ tgs, i ∈ own.map (·.2)) (hs : ∀ x, foldedSetIterable iter X.env x = pure x) : PE X (.ListComp elt [⟨tg, iter, ifs, 0⟩] scope pos) (tF X.K nm fx (evF C G (.lc own tgs pat mi cond melt))) :=
  PEimp (pe_lc g.calm g.nd hi ok hg ht he hs) fun _ _ _ h => lc_read hown h
/-! ### xs.append(e) -/
theorem tyV_lst {K : PySem.W.Frag} {a : Addr} {xs : List V} (h : H a = some (.lst xs)) : tyV K "list" (.ref a) H := .inl ⟨rfl, xs, SqL.of h⟩
theorem se_app {o e : Expr} {mo m : Ex} {apos pos : Pos} (ho : PE X o (tE X.K nm fx (ev C G mo))) (h : PE X e (tE X.K nm fx (ev C G m))) (hs : starEach [e] X.env = (false, eval e X.env) :: starEach [] X.env) (hbase : attributeBase o "append" X.env (eval o X.env) = eval o X.env) (hline : (apos.endLine == pos.line) = true) :
    PE X (.Call (.Attribute o "append" apos) [e] [] pos) (tE X.K nm fx (ev C G (.app mo m))) := by
  refine PEimp (pe_bm PySem.F.plainAttrs_list PySem.F.slot_list_append PySem.F.type_list_append mt_append ho (pa_cons h pa_nil hs) hbase (by rw [hs] <;> rfl) hline hs rfl) fun σ H Q h => ?_
  obtain ⟨ι, S, ρ, st, w⟩ := h
  simp only [ev] at w
  refine ⟨ι, S, ρ, st, w.bind.mono fun d S1 w1 v ι1 H1 r1 e1 p1 => ?_⟩
  cases d <;> first
    | exact False.elim w1
    | skip
  case ref n =>
  simp only at w1
  split at w1
  · rename_i us hus
    obtain ⟨a, xs, rfl, hn, h1, h2⟩ := r1.ref hus p1
    refine ⟨tyV_lst h1, ι1, S1, ρ, st.on r1 e1, w1.bind.mono fun d S2 w2 dv ι2 H2 r2 e2 p2 => ?_⟩
    split at w2
    · rename_i ds hds
      split at w2
      · rename_i hl
        obtain ⟨b, ys, hb, h3, h4⟩ := r2.lst hds
        rw [e2.at_ hn] at hb
        cases hb
        obtain ⟨r3, e3⟩ := r2.put (ys := ys ++ [dv]) (es := ds ++ [d]) (xs := ys) (e2.at_ hn) hds (h4.append ⟨dv, [], rfl, p2, rfl⟩)
        refine ⟨a, ys, dv, rfl, rfl, h3, ?_, w2 _ ι2 _ r3 ((e1.trans e2).trans e3) rfl⟩
        rw [h4.length]
        exact Nat.lt_of_lt_of_le hl (by decide)
      · exact w2.elim
    · exact w2.elim
  · exact w1.elim
/-! ### a list's other methods -/
def LM.nam : LM → Str
  | .insert => "insert" | .pop => "pop" | .popAt => "pop" | .reverse => "reverse" | .clear => "clear" | .extend => "extend"
def rInsert : V → List V → Hp → VK → Prop := fun x vs H Q => ∃ (l : Addr) (xs : List V) (i : Int) (y : V), x = .ref l ∧ vs = [.int i, y] ∧ H l = some (.lst xs) ∧ xs.length < sizeLine ∧ 0 ≤ i ∧ i < 2 ^ 63 ∧
    Q .non (upd H l (.lst (xs.take i.toNat ++ [y] ++ xs.drop i.toNat)))
def rLM : LM → V → List V → Hp → VK → Prop
  | .insert => rInsert | .pop => rPop | .popAt => rPopAt | .reverse => rReverse | .clear => rClear | .extend => rExtend
theorem Reps.one {K : PySem.W.Frag} {ι : Io} {H : Hp} {d : D} {v : V} (r : Rep K nm ι H d v) : Reps K nm ι H [d] [v] := ⟨v, [], rfl, r, rfl⟩
theorem Reps.rev {K : PySem.W.Frag} {ι : Io} {H : Hp} {ds : List D} {xs : List V} (r : Reps K nm ι H ds xs) : Reps K nm ι H ds.reverse xs.reverse := by
  induction ds generalizing xs with
  | nil => cases r; exact rfl
  | cons d ds ih =>
    obtain ⟨v, w, rfl, h1, h2⟩ := r
    rw [List.reverse_cons, List.reverse_cons]
    exact (ih h2).append ⟨v, [], rfl, h1, rfl⟩
theorem Reps.erase {K : PySem.W.Frag} {ι : Io} {H : Hp} {ds : List D} {xs : List V} (k : Nat) (r : Reps K nm ι H ds xs) : Reps K nm ι H (ds.eraseIdx k) (xs.eraseIdx k) := by
  rw [List.eraseIdx_eq_take_drop_succ, List.eraseIdx_eq_take_drop_succ]
  exact (r.take k).append (r.drop (k + 1))
theorem lm_read {m : LM} {n : Nat} {a : Addr} {ds : List D} {vs : List V} {S2 : Sto} {ι2 : Io} {H2 : Hp} {Q : VK} {XW : Xc → Sto → Prop} (r2 : Rel X.K nm ι2 S2 H2) (hn : ι2.st[n]? = some a) (hv : Reps X.K nm ι2 H2 ds vs) (e2 : Ex' ι H ι2 H2)
    (w : Wg (lmV m n ds S2) (Wv X.K nm ι H Q) XW) : rLM m (.ref a) vs H2 Q := by
  unfold lmV at w
  split at w
  case h_2 => exact w.elim
  rename_i us hus
  obtain ⟨b, xs, hb, h3, h4⟩ := r2.lst hus
  rw [hn] at hb
  cases hb
  have hl := h4.length
  have lm0 : lim ≤ sizeLine := by decide
  have lm1 : lim < sizeLine := by decide
  split at w
  · split at w
    · rename_i i d hc
      obtain ⟨v1, r1, rfl, p1, q1⟩ := hv
      obtain ⟨v2, r2', rfl, p2, q2⟩ := q1
      cases q2
      cases p1
      obtain ⟨r3, e3⟩ := r2.put (ys := xs.take i.toNat ++ [v2] ++ xs.drop i.toNat) (es := us.take i.toNat ++ [d] ++ us.drop i.toNat) (xs := xs) hn hus (((h4.take _).append (Reps.one p2)).append (h4.drop _))
      exact ⟨a, xs, i, v2, rfl, rfl, h3, by rw [hl]; omega, hc.2.1, hc.2.2, w _ ι2 _ r3 (e2.trans e3) rfl⟩
    · exact w.elim
  · split at w
    · rename_i d hd
      cases hv
      rw [← hl] at hd
      obtain ⟨v, q1, q2⟩ := h4.get hd
      obtain ⟨r3, e3⟩ := r2.put (ys := xs.dropLast) (es := us.dropLast) (xs := xs) hn hus (by
        rw [List.dropLast_eq_take, List.dropLast_eq_take, hl]
        exact h4.take _)
      exact ⟨a, xs, v, rfl, rfl, h3, q1, w v ι2 _ r3 (e2.trans e3) (q2.mono r2 e3)⟩
    · exact w.elim
  · split at w
    · rename_i i hc
      split at w
      · rename_i k hk
        split at w
        · rename_i d hd
          obtain ⟨v1, r1, rfl, p1, q1⟩ := hv
          cases q1
          cases p1
          obtain ⟨v, q1, q2⟩ := h4.get hd
          obtain ⟨r3, e3⟩ := r2.put (ys := xs.eraseIdx k) (es := us.eraseIdx k) (xs := xs) hn hus (h4.erase k)
          exact ⟨a, xs, i, k, v, rfl, rfl, h3, hc.1, hc.2, by rw [hl]; exact hk, q1, w v ι2 _ r3 (e2.trans e3) (q2.mono r2 e3)⟩
        · exact w.elim
      · exact w.elim
    · exact w.elim
  · cases hv
    obtain ⟨r3, e3⟩ := r2.put (ys := xs.reverse) (es := us.reverse) (xs := xs) hn hus h4.rev
    exact ⟨a, xs, rfl, rfl, h3, w _ ι2 _ r3 (e2.trans e3) rfl⟩
  · cases hv
    obtain ⟨r3, e3⟩ := r2.put (ys := []) (es := []) (xs := xs) hn hus rfl
    exact ⟨a, xs, rfl, rfl, h3, w _ ι2 _ r3 (e2.trans e3) rfl⟩
  · split at w
    · rename_i m' ys hys
      split at w
      · rename_i hc
        obtain ⟨v1, r1, rfl, p1, q1⟩ := hv
        cases q1
        obtain ⟨b, zs, rfl, hb1, hb2, hb3⟩ := r2.ref hys p1
        obtain ⟨r3, e3⟩ := r2.put (ys := xs ++ zs) (es := us ++ ys) (xs := xs) hn hus (h4.append hb3)
        exact ⟨a, b, xs, zs, rfl, rfl, h3, hb2, by rw [hl, hb3.length]; omega, w _ ι2 _ r3 (e2.trans e3) rfl⟩
      · exact w.elim
    · exact w.elim
  · exact w.elim
theorem lm_arg {o e : Expr} {es : List Expr} {mo : Ex} {ms : List Ex} {id : String} {m : LM} {apos pos : Pos} (slot : Slot "list" m.nam id) (ty : typeOf (.builtin id) = pure (.type "method_descriptor")) (mt : MtR X id (rLM m)) (ho : PE X o (tE X.K nm fx (ev C G mo))) (h : PA X (e :: es) (tA X.K nm fx (evs C G ms))) (hs : starEach (e :: es) X.env = (false, eval e X.env) :: starEach es X.env)
    (hpl : (backTo pos (starEach es X.env)).any (·.1) = false) (hfew : ((backTo pos (starEach (e :: es) X.env)).all (fun x => !x.1) && (backToKw pos (keywordEach [] X.env)).all (fun x => x.1.isSome)
      && decide ((e :: es).length + ([] : List Keyword).length + (if ([] : List Keyword).isEmpty then 0 else 1) < 30)) = true) (hbase : attributeBase o m.nam X.env (eval o X.env) = eval o X.env) (hline : (apos.endLine == pos.line) = true) :
    PE X (.Call (.Attribute o m.nam apos) (e :: es) [] pos) (tE X.K nm fx (ev C G (.lm m mo ms))) := by
  refine PEimp (pe_bm PySem.F.plainAttrs_list slot ty mt ho h hbase hfew hline hs hpl) fun σ H Q h => ?_
  obtain ⟨ι, S, ρ, st, w⟩ := h
  simp only [ev] at w
  refine ⟨ι, S, ρ, st, w.bind.mono fun d S1 w1 v ι1 H1 r1 e1 p1 => ?_⟩
  cases d <;> first
    | exact False.elim w1
    | skip
  case ref n =>
  simp only at w1
  split at w1
  · rename_i us hus
    obtain ⟨a, xs, rfl, hn, h1, h2⟩ := r1.ref hus p1
    refine ⟨tyV_lst h1, ι1, S1, ρ, st.on r1 e1, w1.bind.mono fun ds S2 w2 vs ι2 H2 r2 e2 p2 => ?_⟩
    exact lm_read r2 (e2.at_ hn) p2 (e1.trans e2) w2
  · exact w1.elim
theorem lm_arg0 {o : Expr} {mo : Ex} {id : String} {m : LM} {apos pos : Pos} (slot : Slot "list" m.nam id) (ty : typeOf (.builtin id) = pure (.type "method_descriptor")) (mt : MtR X id (rLM m)) (ho : PE X o (tE X.K nm fx (ev C G mo))) (hbase : attributeBase o m.nam X.env (eval o X.env) = eval o X.env) (hline : (apos.endLine == pos.line) = true) :
    PE X (.Call (.Attribute o m.nam apos) [] [] pos) (tE X.K nm fx (ev C G (.lm m mo []))) := by
  refine PEimp (pe_bm0 PySem.F.plainAttrs_list slot ty mt ho hbase hline) fun σ H Q h => ?_
  obtain ⟨ι, S, ρ, st, w⟩ := h
  simp only [ev, evs, R.bind_ok] at w
  refine ⟨ι, S, ρ, st, w.bind.mono fun d S1 w1 v ι1 H1 r1 e1 p1 => ?_⟩
  cases d <;> first
    | exact False.elim w1
    | skip
  case ref n =>
  simp only at w1
  split at w1
  · rename_i us hus
    obtain ⟨a, xs, rfl, hn, h1, h2⟩ := r1.ref hus p1
    exact ⟨tyV_lst h1, lm_read (ds := []) (vs := []) r1 hn rfl e1 w1⟩
  · exact w1.elim
/-- the methods with arguments, and those without -/
def LM.arg : LM → Bool
  | .insert => true | .popAt => true | .extend => true | _ => false
theorem se_lm {o : Expr} {es : List Expr} {mo : Ex} {ms : List Ex} {m : LM} {apos pos : Pos} (ho : PE X o (tE X.K nm fx (ev C G mo))) (h : PA X es (tA X.K nm fx (evs C G ms))) (hm : m.arg = !es.isEmpty) (hn : es = [] → ms = []) (hs : ∀ e r, es = e :: r → starEach (e :: r) X.env = (false, eval e X.env) :: starEach r X.env ∧ (backTo pos (starEach r X.env)).any (·.1) = false ∧ ((backTo pos (starEach (e :: r) X.env)).all (fun x => !x.1) && (backToKw pos (keywordEach [] X.env)).all (fun x => x.1.isSome)
      && decide ((e :: r).length + ([] : List Keyword).length + (if ([] : List Keyword).isEmpty then 0 else 1) < 30)) = true) (hbase : attributeBase o m.nam X.env (eval o X.env) = eval o X.env) (hline : (apos.endLine == pos.line) = true) :
    PE X (.Call (.Attribute o m.nam apos) es [] pos) (tE X.K nm fx (ev C G (.lm m mo ms))) := by
  cases es with
  | nil =>
    obtain rfl := hn rfl
    cases m <;> first
      | (cases hm; done)
      | skip
    · exact lm_arg0 (m := .pop) PySem.F.slot_list_pop PySem.F.type_list_pop mt_pop ho hbase hline
    · exact lm_arg0 (m := .reverse) PySem.F.slot_list_reverse PySem.F.type_list_reverse mt_reverse ho hbase hline
    · exact lm_arg0 (m := .clear) PySem.F.slot_list_clear PySem.F.type_list_clear mt_clear ho hbase hline
  | cons e r =>
    obtain ⟨s1, s2, s3⟩ := hs e r rfl
    cases m <;> first
      | (cases hm; done)
      | skip
    · exact lm_arg (m := .insert) PySem.F.slot_list_insert PySem.F.type_list_insert mt_insert ho h s1 s2 s3 hbase hline
    · exact lm_arg (m := .popAt) PySem.F.slot_list_pop PySem.F.type_list_pop mt_popAt ho h s1 s2 s3 hbase hline
    · exact lm_arg (m := .extend) PySem.F.slot_list_extend PySem.F.type_list_extend mt_extend ho h s1 s2 s3 hbase hline
/-! ### turned round; int -/
theorem se_rev {e : Expr} {m : Ex} {k : Nat} {p1 p2 p3 pos : Pos} (h : PE X e (tE X.K nm fx (ev C G m))) : PE X (.Subscript e (.Slice none none (some (.UnaryOp .USub (.Constant (.int 1) k p1) p2)) p3) pos) (tE X.K nm fx (ev C G (.rev m))) := by
  refine PEimp (pe_revL h) fun σ H Q h => ?_
  obtain ⟨ι, S, ρ, st, w⟩ := h
  simp only [ev] at w
  refine ⟨ι, S, ρ, st, w.bind.mono fun d S1 w1 v ι1 H1 r1 e1 p1 => ?_⟩
  cases d <;> first
    | exact False.elim w1
    | skip
  case fro ds =>
    obtain ⟨a, xs, rfl, h1, h2⟩ := p1
    refine ⟨a, xs, rfl, h1.l, fun p hp => ?_⟩
    obtain ⟨r2, e2⟩ := r1.new hp h2.rev
    exact w1 _ _ _ r2 (e1.trans e2) ⟨p, r1.last, rfl⟩
  case ref n =>
    simp only [revV] at w1
    split at w1
    · rename_i ds hds
      obtain ⟨a, xs, rfl, _, h1, h2⟩ := r1.ref hds p1
      refine ⟨a, xs, rfl, SqL.of h1, fun p hp => ?_⟩
      obtain ⟨r2, e2⟩ := r1.new hp h2.rev
      exact w1 _ _ _ r2 (e1.trans e2) ⟨p, r1.last, rfl⟩
    · exact w1.elim
theorem se_intb (g : Gd X nm nms C G fl fx) {e : Expr} {m : Ex} {p pos : Pos} (h : PE X e (tE X.K nm fx (ev C G m))) (hg : Gl X "int") (he : starEach [e] X.env = (false, eval e X.env) :: starEach [] X.env) : PE X (.Call (.Name "int" p) [e] [] pos) (tE X.K nm fx (ev C G (.intb m))) := by
  refine PEimp (pe_callTy call_int1 hg (g.blt _ (by simp [blts])) (by decide +kernel) (pa_one h he) (by decide) (by decide) he) fun σ H Q h => ?_
  obtain ⟨ι, S, ρ, st, w⟩ := h
  simp only [ev] at w
  refine ⟨ι, S, ρ, st, w.bind.mono fun d S1 w1 v ι1 H1 r1 e1 p1 => ?_⟩
  cases d <;> first
    | exact False.elim w1
    | skip
  case bl b => cases p1; exact .inr ⟨b, rfl, w1 _ ι1 H1 r1 e1 rfl⟩
  case int i => cases p1; exact .inl ⟨i, rfl, w1 _ ι1 H1 r1 e1 rfl⟩
theorem se_no {e : Expr} : PE X e (tE X.K nm fx (ev C G .no)) := ⟨fun pins s σ H Q I h => by
  obtain ⟨ι, S, ρ, st, w⟩ := h
  simp only [ev] at w
  exact w.elim⟩
/-! ### statements -/
end
section
variable (K : PySem.W.Frag) (nm : Nat → Addr)
def Wo (fx : Fx) (ι : Io) (H : Hp) (Dn : Ends) : O → Prop
  | .next ρ S => ∀ σ ι' H', Sta K nm fx ι' S ρ σ H' → Ex' ι H ι' H' → Dn.nx σ H'
  | .brk ρ S => ∀ σ ι' H', Sta K nm fx ι' S ρ σ H' → Ex' ι H ι' H' → Dn.bk σ H'
  | .cont ρ S => ∀ σ ι' H', Sta K nm fx ι' S ρ σ H' → Ex' ι H ι' H' → Dn.ct σ H'
  | .ret d S => Wv K nm ι H Dn.rt d S
  | .exc x S => fx.XW x S
  | .bad => False
def tS (fx : Fx) (m : Slo → Sto → O) : TS := fun Dn σ H => ∃ ι S ρ, Sta K nm fx ι S ρ σ H ∧ Wo K nm fx ι H Dn (m ρ S)
end
section
variable {X : Cx} {nm : Nat → Addr} {nms : Nat → Str} {C : Nat → List D → Sto → R D} {G : Nat → Option D} {fl : Fl} {fx : Fx} {ι : Io} {S : Sto} {H : Hp}
theorem PSimp {st : Stmt} {t t' : TS} (h : PS X st t) (i : ∀ D σ H, t' D σ H → t D σ H) : PS X st t' := ⟨fun pins s σ H D I q => h.run pins s σ H D I (i _ _ _ q)⟩
theorem PSsimp {st : List Stmt} {t t' : TS} (h : PSs X st t) (i : ∀ D σ H, t' D σ H → t D σ H) : PSs X st t' := ⟨fun pins s σ H D I q => h.run pins s σ H D I (i _ _ _ q)⟩
theorem Wo.on {K : PySem.W.Frag} {ι1 : Io} {H1 : Hp} {Dn : Ends} {o : O} (e : Ex' ι H ι1 H1) (w : Wo K nm fx ι H Dn o) : Wo K nm fx ι1 H1 Dn o := by
  cases o with
  | next ρ S => exact fun σ ι' H' st e2 => w σ ι' H' st (e.trans e2)
  | brk ρ S => exact fun σ ι' H' st e2 => w σ ι' H' st (e.trans e2)
  | cont ρ S => exact fun σ ι' H' st e2 => w σ ι' H' st (e.trans e2)
  | ret d S => exact Wv.on e w
  | exc x S => exact w
  | bad => exact w
/-- an expression, then what follows -/
theorem Wo.o {K : PySem.W.Frag} {Dn : Ends} {α : Type} {r : R α} {f : α → Sto → O} (w : Wo K nm fx ι H Dn (r.o f)) : Wg r (fun a S => Wo K nm fx ι H Dn (f a S)) fx.XW := by
  cases r <;> exact w
theorem sss_nil : PSs X [] (tS X.K nm fx (exs C G [])) := by
  refine PSsimp pss_nil fun D σ H h => ?_
  obtain ⟨ι, S, ρ, st, w⟩ := h
  exact w σ ι H st .refl
theorem sss_cons {s : Stmt} {r : List Stmt} {m : Sm} {ms : List Sm} (h1 : PS X s (tS X.K nm fx (ex C G m))) (h2 : PSs X r (tS X.K nm fx (exs C G ms))) : PSs X (s :: r) (tS X.K nm fx (exs C G (m :: ms))) := by
  refine PSsimp (pss_cons h1 h2) fun D σ H h => ?_
  obtain ⟨ι, S, ρ, st, w⟩ := h
  simp only [exs] at w
  refine ⟨ι, S, ρ, st, ?_⟩
  cases q : ex C G m ρ S with
  | next ρ1 S1 =>
    rw [q] at w
    exact fun σ' ι' H' st' e' => ⟨ι', S1, ρ1, st', Wo.on e' w⟩
  | brk ρ1 S1 => rw [q] at w; exact w
  | cont ρ1 S1 => rw [q] at w; exact w
  | ret d S1 => rw [q] at w; exact w
  | exc x S1 => rw [q] at w; exact w
  | bad => rw [q] at w; exact w
theorem ss_asg (g : Gd X nm nms C G fl fx) {i : Nat} {x : Str} {e : Expr} {m : Ex} {pos pos' : Pos} (hi : X.N[i]? = some x) (hx : Loc X.env.scope x) (hf : X.fn x = true ∨ X.env.scope.names.lookup x = some .local) (h : PE X e (tE X.K nm fx (ev C G m)))
    (hs : swapsWith e (some (.Name x pos')) pos.line X.env = pure false) : PS X (.Assign [.Name x pos'] e pos) (tS X.K nm fx (ex C G (.asg i m))) := by
  refine PSimp (ps_set g.nd hi hx h hs hf) fun D σ H h => ?_
  obtain ⟨ι, S, ρ, st, w⟩ := h
  simp only [ex] at w
  exact ⟨ι, S, ρ, st, w.o.mono fun d S1 w1 v ι1 H1 r1 e1 p1 => w1 _ ι1 H1 ((st.on r1 e1).set p1) e1⟩
theorem ss_asgLc (g : Gd X nm nms C G fl fx) {i : Nat} {y : Str} {py : Pos} {elt tg iter : Expr} {ifs : List Expr} {scope : Scope} {own : List (Str × Nat)} {pos spos : Pos} {mi : It} {tgs : List Nat} {pat : Bool} {cond : Option Te} {melt : Ex}
    (hy : X.N[i]? = some y) (hyl : X.env.scope.names.lookup y = some .local) (hsw : swapsWith (.ListComp elt [⟨tg, iter, ifs, 0⟩] scope pos) (some (.Name y py)) spos.line X.env = pure true)
    (hi : PI X tg iter (tI X.K nm fx (evI C G mi))) (ok : BlkOk X.N X.env.scope scope own)
    (hg : ∀ (s : Shared) (H : Hp) (c : Addr) (cl : List (Str × Addr)) (fp : List Addr), PG (X.blk s H scope (compEnvC scope cl c X.env) fp) tg (gTg X.K tgs pat))
    (ht : ∀ (s : Shared) (H : Hp) (c : Addr) (cl : List (Str × Addr)) (fp : List Addr), PTs (X.blk s H scope (compEnvC scope cl c X.env) fp) ifs (tT X.K nm fx.nox (evto C G cond)))
    (he : ∀ (s : Shared) (H : Hp) (c : Addr) (cl : List (Str × Addr)) (fp : List Addr), PE (X.blk s H scope (compEnvC scope cl c X.env) fp) elt (tE X.K nm fx.nox (ev C G melt)))
    (hown : ∀ i ∈ tgs, i ∈ own.map (·.2)) (hs : ∀ x, foldedSetIterable iter X.env x = pure x) : PS X (.Assign [.Name y py] (.ListComp elt [⟨tg, iter, ifs, 0⟩] scope pos) spos) (tS X.K nm fx (ex C G (.asg i (.new (.lc own tgs pat mi cond melt))))) := by
  refine PSimp (ps_setLc g.calm g.nd hy hyl hsw hi ok hg ht he hs) fun D σ H h => ?_
  obtain ⟨ι, S, ρ, st, w⟩ := h
  simp only [ex, ev] at w
  refine lc_read hown ⟨ι, S, ρ, st, w.o.bind.mono fun ds S1 w1 p xs ι1 H1 r1 e1 n1 h1 i1 p1 => ?_⟩
  obtain ⟨r2, e2⟩ := r1.take h1 i1 p1 H ι e1 n1
  exact w1 _ _ H1 ((st.on r2 e2).set ⟨p, r1.last, rfl⟩) e2
theorem ss_asgLcF (g : Gd X nm nms C G fl fx) {i : Nat} {y : Str} {py : Pos} {elt tg iter : Expr} {ifs : List Expr} {scope : Scope} {own : List (Str × Nat)} {pos spos : Pos} {mi : It} {tgs : List Nat} {pat : Bool} {cond : Option Te} {melt : Ex}
    (hy : X.N[i]? = some y) (hyl : X.env.scope.names.lookup y = some .local) (hsw : swapsWith (.ListComp elt [⟨tg, iter, ifs, 0⟩] scope pos) (some (.Name y py)) spos.line X.env = pure true)
    (hi : PI X tg iter (tI X.K nm fx (evI C G mi))) (ok : BlkOk X.N X.env.scope scope own)
    (hg : ∀ (s : Shared) (H : Hp) (c : Addr) (cl : List (Str × Addr)) (fp : List Addr), PG (X.blk s H scope (compEnvC scope cl c X.env) fp) tg (gTg X.K tgs pat))
    (ht : ∀ (s : Shared) (H : Hp) (c : Addr) (cl : List (Str × Addr)) (fp : List Addr), PTs (X.blk s H scope (compEnvC scope cl c X.env) fp) ifs (tT X.K nm fx.nox (evto C G cond)))
    (he : ∀ (s : Shared) (H : Hp) (c : Addr) (cl : List (Str × Addr)) (fp : List Addr), PE (X.blk s H scope (compEnvC scope cl c X.env) fp) elt (tE X.K nm fx.nox (ev C G melt)))
    (hown : ∀ i ∈ tgs, i ∈ own.map (·.2)) (hs : ∀ x, foldedSetIterable iter X.env x = pure x) : PS X (.Assign [.Name y py] (.ListComp elt [⟨tg, iter, ifs, 0⟩] scope pos) spos) (tS X.K nm fx (ex C G (.asg i (.frn (.lc own tgs pat mi cond melt))))) := by
  refine PSimp (ps_setLc g.calm g.nd hy hyl hsw hi ok hg ht he hs) fun D σ H h => ?_
  obtain ⟨ι, S, ρ, st, w⟩ := h
  simp only [ex, ev] at w
  refine lc_read hown ⟨ι, S, ρ, st, w.o.bind.mono fun ds S1 w1 p xs ι1 H1 r1 e1 n1 h1 i1 p1 => ?_⟩
  obtain ⟨r2, e2⟩ := r1.frzO h1 i1 H ι e1 n1
  exact w1 _ _ H1 ((st.on r2 e2).set ⟨p, xs, rfl, ⟨List.mem_cons_self .., h1⟩, p1.toM (m := ι1.st.length) Io.le_frz p1.closed⟩) e2
theorem ss_asgT (g : Gd X nm nms C G fl fx) {is : List Nat} {tg e : Expr} {m : Ex} {pos : Pos} (h : PE X e (tE X.K nm fx (ev C G m))) (hg : PG X tg (gTg X.K is true)) (hs : swapsWithSole [tg] e pos.line X.env = pure false) (hw : swappedStores [tg] e X.env = pure none) (h1 : (assignEach [tg] X.env).map (·.2) = [assign tg X.env]) :
    PS X (.Assign [tg] e pos) (tS X.K nm fx (ex C G (.asgT is m))) := by
  refine PSimp (ps_asg h hg hs hw h1) fun D σ H h => ?_
  obtain ⟨ι, S, ρ, st, w⟩ := h
  simp only [ex] at w
  refine ⟨ι, S, ρ, st, w.o.mono fun d S1 w1 v ι1 H1 r1 e1 p1 => ?_⟩
  split at w1
  · rename_i ρ1 hb
    exact tg_go (st.on r1 e1) p1 hb fun σ' st' _ => w1 σ' ι1 H1 st' e1
  · exact w1.elim
theorem setI_go {K : PySem.W.Frag} {o i d : D} {x y v : V} {P : Unit → Sto → Prop} {XW : Xc → Sto → Prop} {Q : Hp → Prop} (r : Rel K nm ι S H) (po : Rep K nm ι H o x) (pi : Rep K nm ι H i y) (pd : Rep K nm ι H d v) (w : Wg (setIV o i d S) P XW)
    (k : ∀ S' H', P () S' → Rel K nm ι S' H' → Ex' ι H ι H' → Q H') : rSetL x y v H Q := by
  cases o <;> cases i <;> first
    | exact False.elim w
    | skip
  case ref.int n j =>
    simp only [setIV] at w
    cases pi
    split at w
    · rename_i ds hds
      obtain ⟨a, xs, rfl, hn, h1, h2⟩ := r.ref hds po
      split at w
      · rename_i q hq
        obtain ⟨r2, e2⟩ := r.put (ys := xs.set q v) (es := ds.set q d) (xs := xs) hn hds (h2.set q pd)
        exact ⟨a, xs, j, q, rfl, rfl, h1, by rw [h2.length]; exact hq, k _ _ w r2 e2⟩
      · exact w.elim
    · exact w.elim
theorem ss_setI {o i e : Expr} {mo mi m : Ex} {pos p2 : Pos} (h : PE X e (tE X.K nm fx (ev C G m))) (ho : PE X o (tE X.K nm fx (ev C G mo))) (hi : PE X i (tE X.K nm fx (ev C G mi)))
    (ha : ∀ v, assign (.Subscript o i p2) X.env v = (do
      let ov ← holding [v] (eval o X.env)
      let iv ← holding [v, ov] (eval i X.env)
      standAt p2
      holding [v, ov, iv] (setItem ov iv v)
      release [v, ov, iv] [])) (hs : swapsWithSole [.Subscript o i p2] e pos.line X.env = pure false) (hw : swappedStores [.Subscript o i p2] e X.env = pure none) (h1 : (assignEach [.Subscript o i p2] X.env).map (·.2) = [assign (.Subscript o i p2) X.env]) :
    PS X (.Assign [.Subscript o i p2] e pos) (tS X.K nm fx (ex C G (.setI mo mi m))) := by
  refine PSimp (ps_asg h (pg_sub ho hi set_list ha) hs hw h1) fun D σ H h => ?_
  obtain ⟨ι, S, ρ, st, w⟩ := h
  simp only [ex] at w
  refine ⟨ι, S, ρ, st, w.o.mono fun d S1 w1 v ι1 H1 r1 e1 p1 => ?_⟩
  refine ⟨ι1, S1, ρ, st.on r1 e1, w1.o.mono fun x S2 w2 xv ι2 H2 r2 e2 p2 => ?_⟩
  refine ⟨ι2, S2, ρ, (st.on r1 e1).on r2 e2, w2.o.mono fun y S3 w3 yv ι3 H3 r3 e3 p3 => ?_⟩
  exact setI_go r3 (p2.mono r2 e3) p3 (p1.mono r1 (e2.trans e3)) w3.o fun S' H' w4 r4 e4 => w4 σ ι3 H' ((((st.on r1 e1).on r2 e2).on r3 e3).on r4 e4) (((e1.trans e2).trans e3).trans e4)
theorem getI_list : PGet X (fun o i H Q => ∃ a xs k v, o = .ref a ∧ i = .int k ∧ 0 ≤ k ∧ SqL X.K H a xs ∧ xs[k.toNat]? = some v ∧ Q v H) := by
  intro pins s σ H o i ov iv Q I ro ri h
  obtain ⟨a, xs, k, v, rfl, rfl, hk, hs, hv, q⟩ := h
  cases ro
  obtain ⟨t, rfl⟩ := ri
  obtain ⟨its, rv, pl, hz⟩ := I.list hs
  obtain ⟨u, hu, ru⟩ := rv.get hv
  have hl : k.toNat < xs.length := (List.getElem?_eq_some_iff.mp hv).1
  have hz2 : xs.length ≤ 16777216 := by rw [← sizeLine_eq]; exact hz
  exact wpAny_getItem_list pl.isList hk (by omega) (by simpa using hu) ⟨v, H, I, ru, q⟩
def opA : BOp → Operator := BOp.op
def tipA (K : PySem.W.Frag) (nm : Nat → Addr) (op : BOp) : TIp := fun x y H Q => ∃ ι S d e, Rel K nm ι S H ∧ Rep K nm ι H d x ∧ Rep K nm ι H e y ∧ Wg (augV op d e S) (Wv K nm ι H Q) NoX
theorem pip_aug (op : BOp) : PIp X op.op (tipA X.K nm op) := by
  intro pins s σ H x y v u Q I rx ry h
  obtain ⟨ι, S, d, e, rel, hx, hy, w⟩ := h
  cases op <;> cases d <;> cases e <;> first
    | exact False.elim w
    | skip
  case add.int.int i j =>
    cases hx; cases hy
    exact iop_add pins s σ H _ _ v u Q I rx ry ⟨i, j, rfl, rfl, w _ ι H rel .refl rfl⟩
  case sub.int.int i j =>
    cases hx; cases hy
    exact iop_sub pins s σ H _ _ v u Q I rx ry ⟨i, j, rfl, rfl, w _ ι H rel .refl rfl⟩
  case add.str.str i j =>
    cases hx; cases hy
    simp only [augV] at w
    split at w
    · rename_i hl
      refine iop_add_str pins s σ H _ _ v u Q I rx ry ⟨strOf i, strOf j, rfl, rfl, ?_, w _ ι H rel .refl ?_⟩
      · rw [strOf_len, strOf_len]
        exact lim_le hl
      · rw [strOf_app]
        rfl
    · exact w.elim
theorem augV_nox (op : BOp) (a b : D) (S : Sto) (x : Xc) (S' : Sto) : augV op a b S ≠ .exc x S' := by
  unfold augV
  split <;> (repeat' split) <;> exact fun q => by cases q
theorem ss_aug (g : Gd X nm nms C G fl fx) {op : BOp} {i : Nat} {x : Str} {e : Expr} {m : Ex} {pos pos' : Pos} (hi : X.N[i]? = some x) (hx : Loc X.env.scope x) (hf : X.fn x = true ∨ X.env.scope.names.lookup x = some .local) (h : PE X e (tE X.K nm fx (ev C G m))) :
    PS X (.AugAssign (.Name x pos') op.op e pos) (tS X.K nm fx (ex C G (.aug op i m))) := by
  refine PSimp (ps_aug g.nd hi hx h (pip_aug (nm := nm) op) hf) fun D σ H h => ?_
  obtain ⟨ι, S, ρ, st, w⟩ := h
  simp only [ex] at w
  split at w
  · rename_i d hd
    obtain ⟨v, h1, h2⟩ := st.slo i d hd
    refine ⟨v, h1, ι, S, ρ, st, w.o.mono fun d2 S1 w1 v2 ι1 H1 r1 e1 p1 => ?_⟩
    refine ⟨ι1, S1, d, d2, r1, h2.mono st.rel e1, p1, (w1.o.nox' (augV_nox op d d2 S1)).mono fun u S2 w2 z ι2 H2 r2 e2 p2 => ?_⟩
    exact w2 _ ι2 H2 (((st.on r1 e1).on r2 e2).set p2) (e1.trans e2)
  · exact w.elim
theorem ss_augI {op : BOp} {o i e : Expr} {mo mi m : Ex} {pos p2 : Pos} (ho : PE X o (tE X.K nm fx (ev C G mo))) (hi : PE X i (tE X.K nm fx (ev C G mi))) (h : PE X e (tE X.K nm fx (ev C G m)))
    (ha : ∀ ov iv new, augStore i ov iv new = (do holding [new, ov, iv] (setItem ov iv new); release [new, ov, iv] []; pure .next)) : PS X (.AugAssign (.Subscript o i p2) op.op e pos) (tS X.K nm fx (ex C G (.augI op mo mi m))) := by
  refine PSimp (ps_augS ho hi getI_list h (pip_aug (nm := nm) op) set_list ha) fun D σ H h => ?_
  obtain ⟨ι, S, ρ, st, w⟩ := h
  simp only [ex] at w
  refine ⟨ι, S, ρ, st, w.o.mono fun x S1 w1 xv ι1 H1 r1 e1 p1 => ?_⟩
  refine ⟨ι1, S1, ρ, st.on r1 e1, w1.o.mono fun y S2 w2 yv ι2 H2 r2 e2 p2 => ?_⟩
  have st2 := (st.on r1 e1).on r2 e2
  replace w2 := w2.o
  cases x <;> cases y <;> first
    | exact False.elim w2
    | skip
  case ref.int n k =>
  cases p2
  simp only [getIV] at w2
  split at w2
  case h_2 => exact w2.elim
  rename_i ds hds
  split at w2
  case isFalse => exact w2.elim
  rename_i hk
  split at w2
  case h_2 => exact w2.elim
  rename_i z hz
  obtain ⟨a, xs, rfl, hn, h1, h2⟩ := r2.ref hds (p1.mono r1 e2)
  obtain ⟨zv, h3, h4⟩ := h2.get hz
  refine ⟨a, xs, k, zv, rfl, rfl, hk, SqL.of h1, h3, ?_⟩
  refine ⟨ι2, S2, ρ, st2, Wg.mono (Wo.o w2) fun d S4 w4 dv ι4 H4 r4 e4 p4 => ?_⟩
  refine ⟨ι4, S4, z, d, r4, h4.mono r2 e4, p4, (w4.o.nox' (augV_nox op z d S4)).mono fun u S5 w5 uv ι5 H5 r5 e5 p5 => ?_⟩
  exact setI_go (o := .ref n) (i := .int k) r5 ((p1.mono r1 e2).mono r2 (e4.trans e5)) rfl p5 w5.o fun S' H' w6 r6 e6 => w6 σ ι5 H' (((st2.on r4 e4).on r5 e5).on r6 e6) ((((e1.trans e2).trans e4).trans e5).trans e6)
theorem ss_expr {e : Expr} {m : Ex} {pos : Pos} (h : PE X e (tE X.K nm fx (ev C G m))) (hs : swapsWith e none pos.line X.env = pure false) : PS X (.Expr e pos) (tS X.K nm fx (ex C G (.expr m))) := by
  refine PSimp (ps_expr h hs) fun D σ H h => ?_
  obtain ⟨ι, S, ρ, st, w⟩ := h
  simp only [ex] at w
  exact ⟨ι, S, ρ, st, w.o.mono fun d S1 w1 v ι1 H1 r1 e1 p1 => w1 σ ι1 H1 (st.on r1 e1) e1⟩
theorem ss_if {c : Expr} {a b : List Stmt} {mc : Te} {ma mb : List Sm} {pos : Pos} (hc : PT X c (tT X.K nm fx (evT C G mc))) (ha : PSs X a (tS X.K nm fx (exs C G ma))) (hb : PSs X b (tS X.K nm fx (exs C G mb))) : PS X (.If c a b pos) (tS X.K nm fx (ex C G (.if_ mc ma mb))) := by
  refine PSimp (ps_if hc ha hb) fun D σ H h => ?_
  obtain ⟨ι, S, ρ, st, w⟩ := h
  simp only [ex] at w
  refine ⟨ι, S, ρ, st, w.o.mono fun k S1 w1 ι1 H1 r1 e1 => ?_⟩
  cases k with
  | true => exact ⟨ι1, S1, ρ, st.on r1 e1, Wo.on e1 w1⟩
  | false => exact ⟨ι1, S1, ρ, st.on r1 e1, Wo.on e1 w1⟩
theorem ss_ret {e : Expr} {m : Ex} {pos : Pos} (h : PE X e (tE X.K nm fx (ev C G m))) : PS X (.Return (some e) pos) (tS X.K nm fx (ex C G (.ret m))) := by
  refine PSimp (ps_ret h) fun D σ H h => ?_
  obtain ⟨ι, S, ρ, st, w⟩ := h
  simp only [ex] at w
  exact ⟨ι, S, ρ, st, w.o⟩
theorem ss_retN {pos : Pos} : PS X (.Return none pos) (tS X.K nm fx (ex C G .retN)) := by
  refine PSimp ps_retN fun D σ H h => ?_
  obtain ⟨ι, S, ρ, st, w⟩ := h
  exact w _ ι H st.rel .refl rfl
theorem ss_pass {pos : Pos} : PS X (.Pass pos) (tS X.K nm fx (ex C G .pass)) := by
  refine PSimp ps_pass fun D σ H h => ?_
  obtain ⟨ι, S, ρ, st, w⟩ := h
  exact w σ ι H st .refl
theorem ss_brk {pos : Pos} : PS X (.Break pos) (tS X.K nm fx (ex C G .brk)) := by
  refine PSimp ps_break fun D σ H h => ?_
  obtain ⟨ι, S, ρ, st, w⟩ := h
  exact w σ ι H st .refl
theorem ss_no {s : Stmt} : PS X s (tS X.K nm fx (ex C G .no)) := ⟨fun pins s' σ H D I h => by
  obtain ⟨ι, S, ρ, st, w⟩ := h
  exact w.elim⟩
theorem ss_cont {pos : Pos} : PS X (.Continue pos) (tS X.K nm fx (ex C G .cont)) := by
  refine PSimp ps_continue fun D σ H h => ?_
  obtain ⟨ι, S, ρ, st, w⟩ := h
  exact w σ ι H st .refl
theorem grdO_some {K : PySem.W.Frag} {g : List Nat} {S S' : Sto} {r : O} {Dn : Ends} (w : Wo K nm fx ι H Dn (grdO g S S' r)) : (∀ i ∈ g, S'[i]? = S[i]?) ∧ Wo K nm fx ι H Dn r := by
  unfold grdO at w
  split at w
  · exact ⟨by assumption, w⟩
  · exact w.elim
theorem ss_for (g : Gd X nm nms C G fl fx) {tg iter : Expr} {body : List Stmt} {tgs : List Nat} {pat : Bool} {mi : It} {mb : List Sm} {pos : Pos} (hp : PassesOwn (model X.prog X.w) X.A X.env X.xe) (hi : PI X tg iter (tI X.K nm fx (evI C G mi))) (hg : PG X tg (gTg X.K tgs pat)) (hb : PSs X body (tS X.K nm fx (exs C G mb)))
    (hs : ∀ x, foldedSetIterable iter X.env x = pure x) : PS X (.For tg iter body [] pos) (tS X.K nm fx (ex C G (.for_ tgs pat mi mb))) := by
  refine PSimp (ps_for hp g.calm hi hg hb hs) fun D σ H h => ?_
  obtain ⟨ι, S, ρ, st, w⟩ := h
  simp only [ex] at w
  refine ⟨ι, S, ρ, st, w.o.mono fun sv S1 w1 J ι1 H1 r1 e1 wk => ?_⟩
  refine ⟨fun i m σ' Hc => m = sv.ds.length - i ∧ i ≤ sv.ds.length ∧ ∃ ιc Sc ρc, Stb X.K nm ι1 S1 H1 sv.g ιc Sc Hc ∧ Sta X.K nm fx ιc Sc ρc σ' Hc ∧ Wo X.K nm fx ι H D (forL sv.g tgs pat (fun ρ S => exs C G mb ρ S) (sv.ds.drop i) ρc Sc),
    ⟨_, rfl, Nat.zero_le _, ι1, S1, ρ, Stb.refl r1, st.on r1 e1, by simpa using w1⟩, ?_⟩
  rintro i m σ' Hc ⟨rfl, hi, ιc, Sc, ρc, sb, stc, wl⟩
  by_cases hlt : i < sv.ds.length
  · refine .inr ⟨wk.goes i ιc Sc Hc sb hlt, _, fun σ2 H' n => ⟨sv.ds.length - (i + 1), by omega, n⟩, fun x H' y => ?_⟩
    obtain ⟨d, hd, r3, e3, p3⟩ := wk.yields i ιc Sc Hc x H' sb hlt y
    have hdrop : sv.ds.drop i = d :: sv.ds.drop (i + 1) := by
      rw [List.drop_eq_getElem_cons hlt]
      rw [List.getElem?_eq_getElem hlt] at hd
      rw [Option.some.inj hd]
    rw [hdrop] at wl
    simp only [forL] at wl
    split at wl
    · rename_i ρ1 hb1
      refine tg_go (stc.on r3 e3) p3 hb1 fun σ2 st2 _ => ⟨ιc, Sc, ρ1, st2, ?_⟩
      have bs : Ex' ι H ιc H' := (e1.trans sb.2.1).trans e3
      have go : ∀ (ρ2 : Slo) (S2 : Sto), Wo X.K nm fx ι H D (grdO sv.g Sc S2 (forL sv.g tgs pat (fun ρ S => exs C G mb ρ S) (sv.ds.drop (i + 1)) ρ2 S2)) → ∀ σ3 ι3 H3, Sta X.K nm fx ι3 S2 ρ2 σ3 H3 → Ex' ιc H' ι3 H3 →
          sv.ds.length - (i + 1) = sv.ds.length - (i + 1) ∧ i + 1 ≤ sv.ds.length ∧ ∃ ιc Sc ρc, Stb X.K nm ι1 S1 H1 sv.g ιc Sc H3 ∧ Sta X.K nm fx ιc Sc ρc σ3 H3 ∧ Wo X.K nm fx ι H D (forL sv.g tgs pat (fun ρ S => exs C G mb ρ S) (sv.ds.drop (i + 1)) ρc Sc) := by
        intro ρ2 S2 w2 σ3 ι3 H3 st3 e4
        obtain ⟨hgd, w3⟩ := grdO_some w2
        exact ⟨rfl, hlt, ι3, S2, ρ2, ⟨st3.rel, (sb.2.1.trans e3).trans e4, fun j hj => (hgd j hj).trans (sb.2.2 j hj)⟩, st3, w3⟩
      cases q : exs C G mb ρ1 Sc with
      | next ρ2 S2 => rw [q] at wl; exact fun σ3 ι3 H3 st3 e4 => go ρ2 S2 wl σ3 ι3 H3 st3 e4
      | cont ρ2 S2 => rw [q] at wl; exact fun σ3 ι3 H3 st3 e4 => go ρ2 S2 wl σ3 ι3 H3 st3 e4
      | brk ρ2 S2 => rw [q] at wl; exact fun σ3 ι3 H3 st3 e4 => wl σ3 ι3 H3 st3 (bs.trans e4)
      | ret d S2 => rw [q] at wl; exact Wv.on bs wl
      | exc x S2 => rw [q] at wl; exact wl
      | bad => rw [q] at wl; exact wl
    · exact wl.elim
  · have e : i = sv.ds.length := by omega
    subst e
    rw [List.drop_length] at wl
    exact .inl ⟨wk.stops ιc Sc Hc sb, wl σ' ιc Hc stc (e1.trans sb.2.1)⟩
theorem ss_while {c : Expr} {body : List Stmt} {mc : Te} {mb : List Sm} {pos : Pos} (hp : PassesOwn (model X.prog X.w) X.A X.env X.xe) (hc : PT X c (tT X.K nm fx (evT C G mc))) (hb : PSs X body (tS X.K nm fx (exs C G mb))) : PS X (.While c body [] pos) (tS X.K nm fx (ex C G (.while_ mc mb))) := by
  refine PSimp (ps_while hp hc hb) fun D σ H h => ?_
  obtain ⟨ι, S, ρ, st, w⟩ := h
  simp only [ex] at w
  refine ⟨fun m σ' Hc => ∃ ιc Sc ρc, Sta X.K nm fx ιc Sc ρc σ' Hc ∧ Ex' ι H ιc Hc ∧ Wo X.K nm fx ι H D (whl (fun ρ S => evT C G mc ρ S) (fun ρ S => exs C G mb ρ S) m ρc Sc), ⟨fuel, ι, S, ρ, st, .refl, w⟩, ?_⟩
  rintro m σ' Hc ⟨ιc, Sc, ρc, stc, ec, wl⟩
  cases m with
  | zero => exact wl.elim
  | succ m =>
    simp only [whl] at wl
    refine ⟨ιc, Sc, ρc, stc, wl.o.mono fun k S1 w1 ι1 H1 r1 e1 => ?_⟩
    cases k with
    | false =>
      show (if false = true then _ else _)
      rw [if_neg Bool.false_ne_true]
      exact w1 σ' ι1 H1 (stc.on r1 e1) (ec.trans e1)
    | true =>
      show (if true = true then _ else _)
      rw [if_pos rfl]
      refine ⟨_, fun σ2 H2 n => ⟨m, Nat.lt_succ_self m, n⟩, ι1, S1, ρc, stc.on r1 e1, ?_⟩
      have bs := ec.trans e1
      cases q : exs C G mb ρc S1 with
      | next ρ2 S2 => simp only [q] at w1; exact fun σ3 ι3 H3 st3 e4 => ⟨ι3, S2, ρ2, st3, bs.trans e4, w1⟩
      | cont ρ2 S2 => simp only [q] at w1; exact fun σ3 ι3 H3 st3 e4 => ⟨ι3, S2, ρ2, st3, bs.trans e4, w1⟩
      | brk ρ2 S2 => simp only [q] at w1; exact fun σ3 ι3 H3 st3 e4 => w1 σ3 ι3 H3 st3 (bs.trans e4)
      | ret d S2 => simp only [q] at w1; exact Wv.on bs w1
      | exc x S2 => simp only [q] at w1; exact w1
      | bad => simp only [q] at w1; exact w1
end
end Pl

set_option maxHeartbeats 4000000
/-! Dicts. -/
namespace Pl
open PySem L2
section
variable {X : Cx} {nm : Nat → Addr} {nms : Nat → Str} {C : Nat → List D → Sto → R D} {G : Nat → Option D} {fl : Fl} {fx : Fx} {ι : Io} {S : Sto} {H : Hp} {K : PySem.W.Frag}
theorem Wg.of_bind {α β : Type} {r : R α} {f : α → Sto → R β} {P : β → Sto → Prop} {XW : Xc → Sto → Prop} (h : Wg r (fun a S => Wg (f a S) P XW) XW) : Wg (r.bind f) P XW := by
  cases r <;> exact h
theorem key_rep {d : D} {k : Key} {v : V} (h : keyD d = some k) (r : Rep K nm ι H d v) : v = kV k := by
  cases d <;> first
    | (cases h; done)
    | skip
  · cases h; cases r; rfl
  · cases h; cases r; rfl
theorem val_rep {kvs : List (Key × D)} : ∀ {xs : List (Key × V)} (k : Key), RepK K nm ι H kvs xs → (∀ d, valD kvs k = some d → ∃ v, valV xs k = some v ∧ Rep K nm ι H d v) ∧ (valD kvs k = none → valV xs k = none) := by
  induction kvs with
  | nil =>
    intro xs k r
    cases r
    exact ⟨fun d h => (by cases h), fun _ => rfl⟩
  | cons p kvs ih =>
    intro xs k r
    obtain ⟨v, w, rfl, h1, h2⟩ := r
    obtain ⟨i1, i2⟩ := ih k h2
    unfold valD valV at *
    by_cases e : p.1 = k
    · simp only [List.find?_cons, e, decide_true, Option.map_some]
      exact ⟨fun d h => by cases h; exact ⟨v, rfl, h1⟩, fun h => by cases h⟩
    · simp only [List.find?_cons, e, decide_false]
      exact ⟨i1, i2⟩
theorem any_rep {kvs : List (Key × D)} : ∀ {xs : List (Key × V)} (k : Key), RepK K nm ι H kvs xs → (kvs.any fun kv => decide (kv.1 = k)) = (xs.any fun kv => decide (kv.1 = k)) := by
  induction kvs with
  | nil => intro xs k r; cases r; rfl
  | cons p kvs ih =>
    intro xs k r
    obtain ⟨v, w, rfl, h1, h2⟩ := r
    rw [List.any_cons, List.any_cons, ih k h2]
theorem repl_rep {kvs : List (Key × D)} {d : D} {v : V} : ∀ {xs : List (Key × V)} (k : Key), RepK K nm ι H kvs xs → Rep K nm ι H d v → RepK K nm ι H (kvs.map fun kv => if kv.1 = k then (kv.1, d) else kv) (xs.map fun kv => if kv.1 = k then (kv.1, v) else kv) := by
  induction kvs with
  | nil => intro xs k r _; cases r; exact rfl
  | cons p kvs ih =>
    intro xs k r hd
    obtain ⟨w, ws, rfl, h1, h2⟩ := r
    have i := ih k h2 hd
    by_cases e : p.1 = k
    · refine ⟨v, _, ?_, ?_, i⟩
      · simp only [List.map_cons, if_pos e]
      · simp only [if_pos e]; exact hd
    · refine ⟨w, _, ?_, ?_, i⟩
      · simp only [List.map_cons, if_neg e]
      · simp only [if_neg e]; exact h1
theorem RepK.append {κ : Type} {ds es : List (κ × D)} : ∀ {xs ys : List (κ × V)}, RepK K nm ι H ds xs → RepK K nm ι H es ys → RepK K nm ι H (ds ++ es) (xs ++ ys) := by
  induction ds with
  | nil => intro xs ys h k; cases h; exact k
  | cons p ds ih =>
    intro xs ys h k
    obtain ⟨v, w, rfl, h1, h2⟩ := h
    exact ⟨v, w ++ ys, rfl, h1, ih h2 k⟩
theorem RepK.length {κ : Type} {ds : List (κ × D)} : ∀ {xs : List (κ × V)}, RepK K nm ι H ds xs → xs.length = ds.length := by
  induction ds with
  | nil => intro xs h; cases h; rfl
  | cons p ds ih =>
    intro xs h
    obtain ⟨v, w, rfl, h1, h2⟩ := h
    rw [List.length_cons, List.length_cons, ih h2]
theorem put_rep {kvs : List (Key × D)} {d : D} {v : V} {xs : List (Key × V)} (k : Key) (r : RepK K nm ι H kvs xs) (h : Rep K nm ι H d v) : RepK K nm ι H (putD kvs k d) (putK xs k v) := by
  unfold putD putK
  rw [any_rep k r]
  split
  · exact repl_rep k r h
  · exact r.append ⟨v, [], rfl, h, rfl⟩
theorem fold_rep {kvs : List (Key × D)} : ∀ {xs : List (Key × V)} {as : List (Key × D)} {bs : List (Key × V)}, RepK K nm ι H kvs xs → RepK K nm ι H as bs → RepK K nm ι H (kvs.foldl (fun a kv => putD a kv.1 kv.2) as) (mergeK bs xs) := by
  induction kvs with
  | nil => intro xs as bs h k; cases h; exact k
  | cons p kvs ih =>
    intro xs as bs h k
    obtain ⟨v, w, rfl, h1, h2⟩ := h
    show RepK _ _ _ _ _ (mergeK (putK bs p.1 v) w)
    exact ih h2 (put_rep p.1 k h1)
theorem zip_rep {κ : Type} : ∀ {ks : List κ} {ds : List D} {xs : List V}, ks.length = ds.length → Reps K nm ι H ds xs → RepK K nm ι H (ks.zip ds) (ks.zip xs)
  | [], [], xs, _, h => by cases h; exact rfl
  | k :: ks, d :: ds, xs, l, h => by
    obtain ⟨v, w, rfl, h1, h2⟩ := h
    exact ⟨v, _, rfl, h1, zip_rep (by simpa using l) h2⟩
/-- what stands at a place of the store that is a dict -/
theorem Rel.dct (r : Rel K nm ι S H) {n : Nat} {kvs : List (Key × D)} {v : V} (h : S[n]? = some (.dct kvs)) (hv : Rep K nm ι H (.ref n) v) : ∃ a xs, v = .ref a ∧ ι.st[n]? = some a ∧ H a = some (.dK xs) ∧ RepK K nm ι H kvs xs := by
  obtain ⟨a, u, h1, h2, h3, xs, rfl, h4⟩ := r.refO h hv
  exact ⟨a, xs, h1, h2, h3, h4⟩
theorem dct_read (r : Rel K nm ι S H) {x y : D} {vx vy : V} {o : Option D} (hx : Rep K nm ι H x vx) (hy : Rep K nm ι H y vy) (h : dctD x y S = some o) : ∃ a ov, vx = .ref a ∧ DGet H a vy ov ∧ (∀ d, o = some d → ∃ v, ov = some v ∧ Rep K nm ι H d v) ∧ (o = none → ov = none) := by
  unfold dctD at h
  split at h
  · rename_i n k hk
    split at h
    · rename_i kvs hkv
      cases h
      obtain ⟨a, xs, rfl, hn, h3, h4⟩ := r.dct hkv hx
      obtain ⟨q1, q2⟩ := val_rep k h4
      rw [key_rep hk hy]
      exact ⟨a, _, rfl, DGet.k h3, q1, q2⟩
    · cases h
  · rename_i ks ds k hk
    cases h
    obtain ⟨a, xs, rfl, ⟨_, h3⟩, hl, h4⟩ := hx
    obtain ⟨q1, q2⟩ := val_rep k (zip_rep hl h4)
    rw [key_rep hk hy]
    exact ⟨a, _, rfl, DGet.k h3, q1, q2⟩
  · cases h
theorem cl1 (g : Gd X nm nms C G fl fx) : X.A.units + 1 < cLine := by have := g.un; omega
theorem se_dget (g : Gd X nm nms C G fl fx) {o i : Expr} {mo mi : Ex} {pos : Pos} (ho : PE X o (tE X.K nm fx (ev C G mo))) (hi : PE X i (tE X.K nm fx (ev C G mi))) (hs : PlainIx i) : PE X (.Subscript o i pos) (tE X.K nm fx (ev C G (.dget mo mi))) := by
  refine PEimp (pe_dget (cl1 g) ho hi hs) fun σ H Q h => ?_
  obtain ⟨ι, S, ρ, st, w⟩ := h
  simp only [ev] at w
  refine ⟨ι, S, ρ, st, w.bind.mono fun d S1 w1 v ι1 H1 r1 e1 p1 => ?_⟩
  refine ⟨ι1, S1, ρ, st.on r1 e1, w1.bind.mono fun d2 S2 w2 v2 ι2 H2 r2 e2 p2 => ?_⟩
  unfold dgetV at w2
  split at w2
  · rename_i z hz
    obtain ⟨a, ov, rfl, h1, h2, _⟩ := dct_read r2 (p1.mono r1 e2) p2 hz
    obtain ⟨u, rfl, h3⟩ := h2 z rfl
    exact ⟨a, u, rfl, h1, w2 u ι2 H2 r2 (e1.trans e2) h3⟩
  · exact w2.elim
theorem some_same {o : Option D} {ov : Option V} {R : D → V → Prop} (h1 : ∀ d, o = some d → ∃ v, ov = some v ∧ R d v) (h2 : o = none → ov = none) : ov.isSome = o.isSome := by
  cases o with
  | none => rw [h2 rfl]; rfl
  | some d => obtain ⟨v, rfl, _⟩ := h1 d rfl; rfl
theorem pc_dinB (g : Gd X nm nms C G fl fx) {o i : Expr} {mo mi : Ex} {neg : Bool} (hi : PE X i (tE X.K nm fx (ev C G mi))) (ho : PE X o (tE X.K nm fx (ev C G mo))) : PC X (cond neg .NotIn .In) i o (tE X.K nm fx (ev C G (.din neg mi mo))) := by
  have key : ∀ (σ : L2.St) (H : Hp) (Q : VK), tE X.K nm fx (ev C G (.din neg mi mo)) σ H Q → tE X.K nm fx (ev C G mi) σ H fun y H1 => tE X.K nm fx (ev C G mo) σ H1 fun x H2 => ∃ a ov, x = .ref a ∧ DGet H2 a y ov ∧ Q (.bl (ov.isSome ^^ neg)) H2 := by
    intro σ H Q h
    obtain ⟨ι, S, ρ, st, w⟩ := h
    simp only [ev] at w
    refine ⟨ι, S, ρ, st, w.bind.mono fun d S1 w1 v ι1 H1 r1 e1 p1 => ?_⟩
    refine ⟨ι1, S1, ρ, st.on r1 e1, w1.bind.mono fun d2 S2 w2 v2 ι2 H2 r2 e2 p2 => ?_⟩
    split at w2
    · rename_i z hz
      obtain ⟨a, ov, rfl, h1, h2, h3⟩ := dct_read r2 p2 (p1.mono r1 e2) hz
      refine ⟨a, ov, rfl, h1, ?_⟩
      rw [some_same h2 h3]
      exact w2 _ ι2 H2 r2 (e1.trans e2) rfl
    · exact w2.elim
  cases neg with
  | false =>
    refine ⟨fun pins s σ H Q I h => (pc_din (cl1 g) hi ho).run pins s σ H Q I ?_⟩
    have := key σ H Q h
    simp only [Bool.xor_false] at this
    exact this
  | true =>
    refine ⟨fun pins s σ H Q I h => (pc_dnotin (cl1 g) hi ho).run pins s σ H Q I ?_⟩
    have := key σ H Q h
    simp only [Bool.xor_true] at this
    exact this
theorem se_din (g : Gd X nm nms C G fl fx) {o i : Expr} {mo mi : Ex} {neg : Bool} {pos : Pos} (hi : PE X i (tE X.K nm fx (ev C G mi))) (ho : PE X o (tE X.K nm fx (ev C G mo))) (hm : behindInMarks (cond neg .NotIn .In) o = false) : PE X (.Compare i [cond neg .NotIn .In] [o] pos) (tE X.K nm fx (ev C G (.din neg mi mo))) := pe_cmp (pc_dinB g hi ho) hm
theorem st_din (g : Gd X nm nms C G fl fx) {o i : Expr} {mo mi : Ex} {neg : Bool} {pos : Pos} (hi : PE X i (tE X.K nm fx (ev C G mi))) (ho : PE X o (tE X.K nm fx (ev C G mo))) (hm : behindInMarks (cond neg .NotIn .In) o = false) : PT X (.Compare i [cond neg .NotIn .In] [o] pos) (tT X.K nm fx (evT C G (.ex (.din neg mi mo)))) := by
  refine PTimp (pt_cmp (pc_dinB g hi ho) hm) fun σ H Q h => ?_
  obtain ⟨ι, S, ρ, st, w⟩ := h
  simp only [evT] at w
  refine ⟨ι, S, ρ, st, ?_⟩
  simp only [ev] at w ⊢
  rw [R.bind_assoc] at w
  refine Wg.of_bind (w.bind.mono fun d S1 w1 => ?_)
  rw [R.bind_assoc] at w1
  refine Wg.of_bind (w1.bind.mono fun d2 S2 w2 => ?_)
  split at w2
  · rename_i z hz
    exact fun v ι1 H1 r1 e1 p1 => ⟨_, p1, w2 ι1 H1 r1 e1⟩
  · exact w2.elim
theorem se_dnew {pos : Pos} : PE X (.Dict [] [] pos) (tE X.K nm fx (ev C G .dnew)) := by
  refine PEimp pe_dnewK fun σ H Q h => ?_
  obtain ⟨ι, S, ρ, st, w⟩ := h
  simp only [ev] at w
  intro p hp
  obtain ⟨r2, e2⟩ := st.rel.newO (u := .dK []) (ob := .dct []) hp ⟨[], rfl, rfl⟩
  exact w _ _ _ r2 e2 ⟨p, st.rel.last, rfl⟩
theorem se_dlen (g : Gd X nm nms C G fl fx) {e : Expr} {m : Ex} {p pos : Pos} (h : PE X e (tE X.K nm fx (ev C G m))) (hg : Gl X "len") (he : starEach [e] X.env = (false, eval e X.env) :: starEach [] X.env) : PE X (.Call (.Name "len" p) [e] [] pos) (tE X.K nm fx (ev C G (.dlen m))) := by
  refine PEimp (pe_callB call_lenD hg (g.blt _ (by simp [blts])) PySem.boot_len (pa_one h he) (by decide) (by decide) he) fun σ H Q h => ?_
  obtain ⟨ι, S, ρ, st, w⟩ := h
  simp only [ev] at w
  refine ⟨ι, S, ρ, st, w.bind.mono fun d S1 w1 v ι1 H1 r1 e1 p1 => ?_⟩
  cases d <;> first
    | exact False.elim w1
    | skip
  case frd ks ds =>
    obtain ⟨a, xs, rfl, ⟨_, h3⟩, hl, h4⟩ := p1
    exact ⟨a, ks.zip xs, rfl, h3, by rw [List.length_zip, h4.length, hl, Nat.min_self, ← hl]; exact w1 _ ι1 H1 r1 e1 rfl⟩
  case ref n =>
  simp only at w1
  split at w1
  · rename_i kvs hkv
    obtain ⟨a, xs, rfl, hn, h3, h4⟩ := r1.dct hkv p1
    exact ⟨a, xs, rfl, h3, by rw [h4.length]; exact w1 _ ι1 H1 r1 e1 rfl⟩
  · exact w1.elim
theorem se_dgt1 (g : Gd X nm nms C G fl fx) {o e : Expr} {mo me : Ex} {apos pos : Pos} (ho : PE X o (tE X.K nm fx (ev C G mo))) (h : PE X e (tE X.K nm fx (ev C G me))) (m : M1 X o "get" apos e pos) : PE X (.Call (.Attribute o "get" apos) [e] [] pos) (tE X.K nm fx (ev C G (.dgt1 mo me))) := by
  refine PEimp (pe_dget1 (cl1 g) ho h m) fun σ H Q h => ?_
  obtain ⟨ι, S, ρ, st, w⟩ := h
  simp only [ev] at w
  refine ⟨ι, S, ρ, st, w.bind.mono fun d S1 w1 v ι1 H1 r1 e1 p1 => ?_⟩
  cases d <;> first
    | exact False.elim w1
    | skip
  case frd ks ds =>
    obtain ⟨a, xs, rfl, ⟨hz, h3⟩, hl, h4⟩ := id p1
    refine ⟨a, rfl, .inl ⟨ks.zip xs, .inl h3⟩, ι1, S1, ρ, st.on r1 e1, w1.bind.mono fun d2 S2 w2 v2 ι2 H2 r2 e2 p2 => ?_⟩
    split at w2
    · rename_i z hz
      obtain ⟨b, ov, hb, h5, h6, h7⟩ := dct_read r2 (p1.mono r1 e2) p2 hz
      cases hb
      refine ⟨ov, h5, ?_⟩
      cases z with
      | none => rw [h7 rfl]; exact w2 _ ι2 H2 r2 (e1.trans e2) rfl
      | some d3 =>
        obtain ⟨u, rfl, h8⟩ := h6 d3 rfl
        exact w2 _ ι2 H2 r2 (e1.trans e2) h8
    · exact w2.elim
  case ref n =>
  simp only at w1
  split at w1
  · rename_i kvs hkv
    obtain ⟨a, xs, rfl, hn, h3, h4⟩ := r1.dct hkv p1
    refine ⟨a, rfl, .inl ⟨xs, .inl h3⟩, ι1, S1, ρ, st.on r1 e1, w1.bind.mono fun d2 S2 w2 v2 ι2 H2 r2 e2 p2 => ?_⟩
    split at w2
    · rename_i z hz
      obtain ⟨b, ov, hb, h5, h6, h7⟩ := dct_read r2 (p1.mono r1 e2) p2 hz
      cases hb
      refine ⟨ov, h5, ?_⟩
      cases z with
      | none => rw [h7 rfl]; exact w2 _ ι2 H2 r2 (e1.trans e2) rfl
      | some d3 =>
        obtain ⟨u, rfl, h8⟩ := h6 d3 rfl
        exact w2 _ ι2 H2 r2 (e1.trans e2) h8
    · exact w2.elim
  · exact w1.elim
theorem ss_dput (g : Gd X nm nms C G fl fx) {o i e : Expr} {mo mi m : Ex} {pos p2 : Pos} (h : PE X e (tE X.K nm fx (ev C G m))) (ho : PE X o (tE X.K nm fx (ev C G mo))) (hi : PE X i (tE X.K nm fx (ev C G mi))) (hs : swapsWith e (some (.Subscript o i p2)) pos.line X.env = pure false) :
    PS X (.Assign [.Subscript o i p2] e pos) (tS X.K nm fx (ex C G (.dput mo mi m))) := by
  refine PSimp (ps_dput (cl1 g) ho hi h hs) fun D σ H h => ?_
  obtain ⟨ι, S, ρ, st, w⟩ := h
  simp only [ex] at w
  refine ⟨ι, S, ρ, st, w.o.mono fun d S1 w1 v ι1 H1 r1 e1 p1 => ?_⟩
  refine ⟨ι1, S1, ρ, st.on r1 e1, w1.o.mono fun x S2 w2 xv ι2 H2 r2 e2 p2 => ?_⟩
  refine ⟨ι2, S2, ρ, (st.on r1 e1).on r2 e2, w2.o.mono fun y S3 w3 yv ι3 H3 r3 e3 p3 => ?_⟩
  replace w3 := w3.o
  unfold dputV at w3
  split at w3
  case h_2 => exact w3.elim
  rename_i n k hk
  split at w3
  case h_2 => exact w3.elim
  rename_i kvs hkv
  split at w3
  case isFalse => exact w3.elim
  rename_i hl
  obtain ⟨a, xs, rfl, hn, h3, h4⟩ := r3.dct hkv (p2.mono r2 e3)
  obtain ⟨r4, e4⟩ := r3.putO (u := .dK (putK xs k v)) (o2 := .dct (putD kvs k d)) hn hkv ⟨_, rfl, put_rep k h4 (p1.mono r1 (e2.trans e3))⟩
  rw [key_rep hk p3]
  exact ⟨a, _, rfl, DPut.k h3 (by rw [h4.length]; exact Nat.lt_of_lt_of_le hl (by decide)), w3 σ ι3 _ ((((st.on r1 e1).on r2 e2).on r3 e3).on r4 e4) (((e1.trans e2).trans e3).trans e4)⟩
theorem keys_rep {kvs : List (Key × D)} : ∀ {xs : List (Key × V)}, RepK K nm ι H kvs xs → Reps K nm ι H (kvs.map fun kv => dKey kv.1) (xs.map fun kv => kV kv.1) := by
  induction kvs with
  | nil => intro xs h; cases h; exact rfl
  | cons p kvs ih =>
    intro xs h
    obtain ⟨v, w, rfl, h1, h2⟩ := h
    refine ⟨kV p.1, _, rfl, ?_, ih h2⟩
    obtain ⟨k, d⟩ := p
    cases k with
    | inl i => exact rfl
    | inr x => exact congrArg V.str (str_back x).symm
theorem sf_dkeys (g : Gd X nm nms C G fl fx) {e : Expr} {m : Ex} {p pos : Pos} (h : PE X e (tE X.K nm fx (ev C G m))) (hg : Gl X "list") (he : starEach [e] X.env = (false, eval e X.env) :: starEach [] X.env) : PE X (.Call (.Name "list" p) [e] [] pos) (tF X.K nm fx (evF C G (.dkeys m))) := by
  refine PEimp (pe_callTy (call_list_dK g.calm) hg (g.blt _ (by simp [blts])) (by decide +kernel) (pa_one h he) (by decide) (by decide) he) fun σ H Q h => ?_
  obtain ⟨ι, S, ρ, st, w⟩ := h
  simp only [evF] at w
  refine ⟨ι, S, ρ, st, w.bind.mono fun d S1 w1 v ι1 H1 r1 e1 p1 => ?_⟩
  cases d <;> first
    | exact False.elim w1
    | skip
  case frd ks ds =>
    obtain ⟨a, xs, rfl, ⟨_, h3⟩, hl, h4⟩ := p1
    refine ⟨a, ks.zip xs, rfl, h3, fun q hq => ?_⟩
    obtain ⟨r2, e2⟩ := r1.side (o := .lst ((ks.zip xs).map fun kv => kV kv.1)) hq
    have hk := (keys_rep (zip_rep hl h4)).mono r1 e2
    have ek : ((ks.zip ds).map fun kv => dKey kv.1) = ks.map dKey := by
      have z := List.map_map (f := Prod.fst) (g := dKey) (l := ks.zip ds)
      rw [List.map_fst_zip (by omega)] at z
      exact z.symm
    rw [ek] at hk
    exact w1 q _ ι1 _ r2 (e1.trans e2) (none_of e1 hq (r1.free hq)) upd_same (r1.free hq) hk
  case ref n =>
  simp only at w1
  split at w1
  · rename_i kvs hkv
    obtain ⟨a, xs, rfl, hn, h3, h4⟩ := r1.dct hkv p1
    refine ⟨a, xs, rfl, h3, fun q hq => ?_⟩
    obtain ⟨r2, e2⟩ := r1.side (o := .lst (xs.map fun kv => kV kv.1)) hq
    exact w1 q _ ι1 _ r2 (e1.trans e2) (none_of e1 hq (r1.free hq)) upd_same (r1.free hq) ((keys_rep h4).mono r1 e2)
  · exact w1.elim
/-! ### displays -/
def trsOf (K : PySem.W.Frag) (nm : Nat → Addr) (fx : Fx) (C : Nat → List D → Sto → R D) (G : Nat → Option D) : List Ex → List (TE × TE)
  | k :: v :: r => (tE K nm fx (ev C G k), tE K nm fx (ev C G v)) :: trsOf K nm fx C G r
  | _ => []
def flatP (ps : List (V × V)) : List V := ps.flatMap fun p => [p.1, p.2]
theorem trs_read : ∀ (ms : List Ex) {ι : Io} {S : Sto} {ρ : Slo} {σ : L2.St} {H : Hp} {Q : List (V × V) → Hp → Prop} {P : List D → Sto → Prop}, ms.length % 2 = 0 → Sta K nm fx ι S ρ σ H → Wg (evs C G ms ρ S) P fx.XW →
    (∀ ds S' ps ι' H', P ds S' → Rel K nm ι' S' H' → Ex' ι H ι' H' → Reps K nm ι' H' ds (flatP ps) → Q ps H') → tPairs (trsOf K nm fx C G ms) σ H Q
  | [], ι, S, ρ, σ, H, Q, P, hl, st, w, k => k [] S [] ι H w st.rel .refl rfl
  | [_], ι, S, ρ, σ, H, Q, P, hl, st, w, k => by simp at hl
  | a :: b :: ms, ι, S, ρ, σ, H, Q, P, hl, st, w, k => by
    simp only [evs] at w
    refine ⟨ι, S, ρ, st, w.bind.mono fun d S1 w1 v ι1 H1 r1 e1 p1 => ?_⟩
    replace w1 := w1.bind
    refine ⟨ι1, S1, ρ, st.on r1 e1, w1.bind.mono fun d2 S2 w2 v2 ι2 H2 r2 e2 p2 => ?_⟩
    replace w2 := w2.bind
    have w3 : Wg (evs C G ms ρ S2) (fun ds S' => P (d :: d2 :: ds) S') fx.XW := by
      revert w2
      cases evs C G ms ρ S2 with
      | ok ds S' => exact fun z => z
      | exc x S' => exact fun z => z
      | bad => exact fun z => z
    refine trs_read ms (by simp at hl; omega) ((st.on r1 e1).on r2 e2) w3 fun ds S' ps ι' H' hp r e hr => ?_
    exact k _ S' _ ι' H' hp r ((e1.trans e2).trans e) ⟨v, _, rfl, (p1.mono r1 e2).mono r2 e, v2, _, rfl, p2.mono r2 e, hr⟩
theorem pairs_rep : ∀ {ds : List D} {kvs : List (Key × D)} {ps : List (V × V)}, pairsD ds = some kvs → Reps K nm ι H ds (flatP ps) → ∃ xs : List (Key × V), ps = xs.map (fun kv => (kV kv.1, kv.2)) ∧ RepK K nm ι H kvs xs
  | [], kvs, ps, h, r => by
    cases h
    cases ps with
    | nil => exact ⟨[], rfl, rfl⟩
    | cons p ps => cases r
  | [_], kvs, ps, h, r => by cases h
  | a :: b :: ds, kvs, ps, h, r => by
    simp only [pairsD] at h
    split at h <;> first | cases h; done | skip
    rename_i k kvs' hk hq
    cases h
    obtain ⟨v, w, e, h1, v2, w2, e2, h2, h3⟩ := r
    subst e2
    cases ps with
    | nil => cases e
    | cons p ps =>
      have e' : p.1 :: p.2 :: flatP ps = v :: v2 :: w2 := e
      simp only [List.cons.injEq] at e'
      obtain ⟨q1, q2, q3⟩ := e'
      subst q1 q2 q3
      obtain ⟨xs, rfl, hx⟩ := pairs_rep hq h3
      exact ⟨(k, p.2) :: xs, by rw [List.map_cons, ← key_rep hk h1], p.2, xs, rfl, h2, hx⟩
theorem se_disp {keys : List (Option Expr)} {values : List Expr} {ms : List Ex} {pos : Pos} (h : PPs X pos keys values (trsOf X.K nm fx C G ms)) (hl : ms.length % 2 = 0) (hall : keys.all (·.isSome) = true) (hk : keys.length = values.length) (h0 : keys ≠ []) (h15 : keys.length ≤ 15) : PE X (.Dict keys values pos) (tE X.K nm fx (ev C G (.disp ms))) := by
  refine PEimp (pe_disp h hall hk h0 h15) fun σ H Q h => ?_
  obtain ⟨ι, S, ρ, st, w⟩ := h
  simp only [ev] at w
  intro p hp
  obtain ⟨r0, e0⟩ := st.rel.side (o := .dK []) hp
  have hi := st.rel.free hp
  refine trs_read ms hl (st.on r0 e0) w.bind fun ds S' ps ι' H' w1 r1 e1 hr => ?_
  split at w1
  · rename_i kvs hkv
    split at w1
    · rename_i hle
      obtain ⟨xs, rfl, hx⟩ := pairs_rep hkv hr
      obtain ⟨k1, k2⟩ := e1.keep p _ upd_same hi
      refine ⟨k1, xs, rfl, by rw [hx.length]; exact hle, ?_⟩
      have hf : RepK X.K nm ι' H' (kvs.foldl (fun a kv => putD a kv.1 kv.2) []) (mergeK [] xs) := fold_rep hx rfl
      obtain ⟨r2, t1, t2⟩ := r1.sidePutO (v := .dK (mergeK [] xs)) k1 (fun _ z => by cases z) (fun _ _ z => by cases z) k2
      have e2 : Ex' ι H ι' (upd H' p (.dK (mergeK [] xs))) := by
        refine ⟨(e0.trans e1).pre, fun b hb => ⟨((e0.trans e1).fzs b hb).1, ?_⟩, fun b o hb hn => ?_⟩
        · rw [upd_ne (fun e => (Io.nmem.mp k2).2 (by rw [← e]; exact ((e0.trans e1).fzs b hb).1))]
          exact ((e0.trans e1).fzs b hb).2
        obtain ⟨q1, q2⟩ := (e0.trans e1).keep b o hb hn
        exact ⟨by rw [upd_ne (fun e => by subst e; rw [hp] at hb; cases hb)]; exact q1, q2⟩
      have hf2 : RepK X.K nm ι' (upd H' p (.dK (mergeK [] xs))) (kvs.foldl (fun a kv => putD a kv.1 kv.2) []) (mergeK [] xs) := by
        revert hf
        generalize kvs.foldl (fun a kv => putD a kv.1 kv.2) [] = as
        generalize mergeK [] xs = bs at t1
        intro hf
        have go : ∀ (as : List (Key × D)) (cs : List (Key × V)), RepK X.K nm ι' H' as cs → RepK X.K nm ι' (upd H' p (.dK bs)) as cs := by
          intro as
          induction as with
          | nil => intro cs h; exact h
          | cons q as ih =>
            intro cs h
            obtain ⟨v, w, rfl, h1, h2⟩ := h
            exact ⟨v, w, rfl, t1 h1, ih w h2⟩
        exact go as bs hf
      obtain ⟨r3, e3⟩ := r2.takeO (ob := .dct (kvs.foldl (fun a kv => putD a kv.1 kv.2) [])) upd_same k2 ⟨_, rfl, hf2⟩ H ι e2 hp
      exact w1 _ _ _ r3 e3 ⟨p, r1.last, rfl⟩
    · exact w1.elim
  · exact w1.elim
end
end Pl

set_option maxHeartbeats 4000000
/-! Instances. -/
namespace Pl
open PySem L2
section
variable {X : Cx} {nm : Nat → Addr} {nms : Nat → Str} {C : Nat → List D → Sto → R D} {G : Nat → Option D} {fl : Fl} {fx : Fx} {ι : Io} {S : Sto} {H : Hp} {K : PySem.W.Frag}
theorem ins_ref (r : Rel K nm ι S H) {c n : Nat} {vx : V} {fs : List (Str × D)} (hx : Rep K nm ι H (.ref n) vx) (h : insV c (.ref n) S = some fs) : ∃ a dx gs, S[n]? = some (.ins c fs) ∧ vx = .ref a ∧ ι.st[n]? = some a ∧ H a = some (.ins (nm c) dx gs) ∧ RepK K nm ι H fs gs := by
  simp only [insV] at h
  split at h
  · rename_i c' fs' hs
    split at h
    · rename_i hc
      cases h
      subst hc
      obtain ⟨a, u, h1, h2, h3, dx, gs, rfl, h4⟩ := r.refO hs hx
      exact ⟨a, dx, gs, hs, h1, h2, h3, h4⟩
    · cases h
  · cases h
theorem ins_read (r : Rel K nm ι S H) {c : Nat} {x : D} {vx : V} {fs : List (Str × D)} (hx : Rep K nm ι H x vx) (h : insV c x S = some fs) : ∃ a dx gs, vx = .ref a ∧ H a = some (.ins (nm c) dx gs) ∧ RepK K nm ι H fs gs := by
  cases x <;> first
    | (cases h; done)
    | skip
  case ref n =>
    obtain ⟨a, dx, gs, _, h1, _, h2, h3⟩ := ins_ref r hx h
    exact ⟨a, dx, gs, h1, h2, h3⟩
  case fri c' fs' ds =>
    simp only [insV] at h
    split at h
    · rename_i hc
      cases h
      subst hc
      obtain ⟨a, dx, xs, h1, ⟨_, h2⟩, hl, h3⟩ := hx
      exact ⟨a, dx, _, h1, h2, zip_rep hl h3⟩
    · cases h
theorem fld_rep {fs : List (Str × D)} : ∀ {gs : List (Str × V)} (f : Str), RepK K nm ι H fs gs → (∀ d, fs.lookup f = some d → ∃ v, gs.lookup f = some v ∧ Rep K nm ι H d v) ∧ (fs.lookup f = none → gs.lookup f = none) := by
  induction fs with
  | nil =>
    intro gs f r
    cases r
    exact ⟨fun d h => (by cases h), fun _ => rfl⟩
  | cons p fs ih =>
    intro gs f r
    obtain ⟨v, w, rfl, h1, h2⟩ := r
    obtain ⟨i1, i2⟩ := ih f h2
    obtain ⟨g, d⟩ := p
    simp only [List.lookup_cons]
    cases e : (f == g) with
    | true => exact ⟨fun d h => by cases h; exact ⟨v, rfl, h1⟩, fun h => by cases h⟩
    | false => exact ⟨i1, i2⟩
theorem putF_rep {fs : List (Str × D)} {d : D} {v : V} : ∀ {gs : List (Str × V)} (f : Str), RepK K nm ι H fs gs → Rep K nm ι H d v → RepK K nm ι H (putFD f d fs) (putF f v gs) := by
  induction fs with
  | nil =>
    intro gs f r hd
    cases r
    exact ⟨v, [], rfl, hd, rfl⟩
  | cons p fs ih =>
    intro gs f r hd
    obtain ⟨w, ws, rfl, h1, h2⟩ := r
    obtain ⟨g, d0⟩ := p
    unfold putFD putF
    by_cases e : g = f
    · simp only [if_pos e]
      exact ⟨v, ws, rfl, hd, h2⟩
    · simp only [if_neg e]
      exact ⟨w, _, rfl, h1, ih f h2 hd⟩
theorem se_attr (g : Gd X nm nms C G fl fx) {c : Nat} {e : Expr} {m : Ex} {f : Str} {pos : Pos} (hf : fl.fld c f = true) (h : PE X e (tE X.K nm fx (ev C G m))) (hb : attributeBase e f X.env (eval e X.env) = eval e X.env) : PE X (.Attribute e f pos) (tE X.K nm fx (ev C G (.attr c m f))) := by
  obtain ⟨hc, hn⟩ := g.cls c f hf
  refine PEimp (pe_fld h hb) fun σ H Q h => ?_
  obtain ⟨ι, S, ρ, st, w⟩ := h
  simp only [ev] at w
  refine ⟨ι, S, ρ, st, w.bind.mono fun d S1 w1 v ι1 H1 r1 e1 p1 => ?_⟩
  split at w1
  · rename_i fs hfs
    split at w1
    · rename_i z hz
      obtain ⟨a, dx, gs, rfl, h3, h4⟩ := ins_read r1 p1 hfs
      obtain ⟨u, h5, h6⟩ := (fld_rep f h4).1 z hz
      exact ⟨a, nm c, dx, gs, u, rfl, h3, hc, hn, h5, w1 u ι1 H1 r1 e1 h6⟩
    · exact w1.elim
  · exact w1.elim
theorem call_go {g : Nat} {ds : List D} {vs : List V} {ι1 : Io} {S1 : Sto} {H1 : Hp} {fx : Fx} {Q : VK} (hext : Ex' fx.ι0 fx.H0 ι H) (r1 : Rel K nm ι1 S1 H1) (e1 : Ex' ι H ι1 H1) (p1 : Reps K nm ι1 H1 ds vs) (w : Wg (C g ds S1) (Wv K nm ι H Q) fx.XW) : spF K nm nms (C g) vs H1 Q (Ew K nm nms fx) := by
  refine ⟨ι1, S1, ds, r1, p1, ?_⟩
  cases q : C g ds S1 with
  | ok d S2 =>
    rw [q] at w
    exact Wv.on e1 w
  | bad => rw [q] at w; exact w
  | exc x S2 =>
    rw [q] at w
    exact fun cls d ι' H' r' e' xr => ⟨x, S2, ι', w, r', (hext.trans e1).trans e', xr⟩
theorem se_meth (g : Gd X nm nms C G fl fx) {c : Nat} {m : Str} {gf : Nat} {o : Expr} {es : List Expr} {mo : Ex} {ms : List Ex} {apos pos : Pos} (hf : fl.mth c m gf = true) (ho : PE X o (tE X.K nm fx (ev C G mo))) (ha : PA X es (tA X.K nm fx (evs C G ms))) (hnil : es = [] → ms = []) (hs : ∀ e r, es = e :: r → starEach (e :: r) X.env = (false, eval e X.env) :: starEach r X.env ∧ (backTo pos (starEach r X.env)).any (·.1) = false)
    (ht : ∃ pl : Sem Bool, eval (.Call (.Attribute o m apos) es [] pos) X.env = (do
      let ov ← eval o X.env
      standAt apos.atName
      let (f, first) ← holding [ov] (getMethod ov m pl)
      callWith pos f first (backTo pos (starEach es X.env)) (backToKw pos (keywordEach [] X.env)))) : PE X (.Call (.Attribute o m apos) es [] pos) (tE X.K nm fx (ev C G (.meth c m gf mo ms))) := by
  obtain ⟨a, fd, ps, k, hc, hm, F, hr, hb⟩ := g.mth c m gf hf
  obtain ⟨pl, ht⟩ := ht
  cases es with
  | nil =>
    obtain rfl := hnil rfl
    refine PEimp (pe_meth0 (pl := pl) ho hc hm F hr hb .nil g.pass ht) fun σ H Q h => ?_
    obtain ⟨ι, S, ρ, st, w⟩ := h
    simp only [ev, evs, R.bind_ok] at w
    refine ⟨ι, S, ρ, st, w.bind.mono fun x S1 w1 v ι1 H1 r1 e1 p1 => ?_⟩
    split at w1
    · rename_i fs hfs
      obtain ⟨b, dx, gs, rfl, h3, h4⟩ := ins_read r1 p1 hfs
      split at w1
      · exact w1.elim
      · rename_i hl
        refine ⟨b, dx, gs, rfl, h3, (fld_rep m h4).2 hl, ?_⟩
        show spF X.K nm nms (C gf) (.ref b :: ([] ++ [])) H1 Q _
        exact call_go (ds := [x]) st.ext r1 e1 (Reps.one p1) w1
    · exact w1.elim
  | cons e r =>
    obtain ⟨s1, s2⟩ := hs e r rfl
    refine PEimp (pe_meth (pl := pl) ho hc hm F hr hb .nil g.pass ha s1 s2 ht) fun σ H Q h => ?_
    obtain ⟨ι, S, ρ, st, w⟩ := h
    simp only [ev] at w
    refine ⟨ι, S, ρ, st, w.bind.mono fun x S1 w1 v ι1 H1 r1 e1 p1 => ?_⟩
    split at w1
    · rename_i fs hfs
      obtain ⟨b, dx, gs, rfl, h3, h4⟩ := ins_read r1 p1 hfs
      split at w1
      · exact w1.elim
      · rename_i hl
        refine ⟨b, dx, gs, rfl, h3, (fld_rep m h4).2 hl, ι1, S1, ρ, st.on r1 e1, w1.bind.mono fun ds S2 w2 vs ι2 H2 r2 e2 p2 => ?_⟩
        show spF X.K nm nms (C gf) (.ref b :: (vs ++ [])) H2 Q _
        rw [List.append_nil]
        exact call_go (ds := x :: ds) st.ext r2 (e1.trans e2) ⟨_, _, rfl, p1.mono r1 e2, p2⟩ w2
    · exact w1.elim
theorem make_go {c gf : Nat} {ds : List D} {vs : List V} {ι1 : Io} {S1 : Sto} {H1 : Hp} {fx : Fx} {Q : VK} {x dx : Addr} (hext : Ex' fx.ι0 fx.H0 ι H) (r1 : Rel K nm ι1 S1 H1) (e1 : Ex' ι H ι1 H1) (p1 : Reps K nm ι1 H1 ds vs) (hx : H1 x = none) (hd : H1 dx = none) (hne : dx ≠ x)
    (w : Wg ((C gf (.ref S1.length :: ds) (S1 ++ [.ins c []])).bind fun v S2 => match v with | .non => .ok (.ref S1.length) S2 | _ => .bad) (Wv K nm ι H Q) fx.XW) : spF K nm nms (C gf) (.ref x :: vs) (upd (upd H1 dx (.own x)) x (.ins (nm c) dx [])) (fun v H2 => v = .non ∧ Q (.ref x) H2) (Ew K nm nms fx) := by
  obtain ⟨r2, e2⟩ := r1.side (o := .own x) hd
  have hx2 : upd H1 dx (.own x) x = none := by rw [upd_ne (Ne.symm hne)]; exact hx
  obtain ⟨r3, e3⟩ := r2.newO (u := .ins (nm c) dx []) (ob := .ins c []) hx2 ⟨dx, [], rfl, rfl⟩
  have hi : (ι1.add x).st[S1.length]? = some x := r1.last
  refine ⟨_, _, .ref S1.length :: ds, r3, ⟨_, _, rfl, ⟨x, hi, rfl⟩, p1.mono r1 (e2.trans e3)⟩, ?_⟩
  cases q : C gf (.ref S1.length :: ds) (S1 ++ [.ins c []]) with
  | ok d S2 =>
    rw [q] at w
    intro v ι' H' r' e' hv
    cases d <;> first
      | exact False.elim w
      | skip
    cases hv
    exact ⟨rfl, w (.ref x) ι' H' r' (((e1.trans e2).trans e3).trans e') ⟨x, e'.at_ hi, rfl⟩⟩
  | bad => rw [q] at w; exact w
  | exc y S2 =>
    rw [q] at w
    exact fun cls d ι' H' r' e' xr => ⟨y, S2, ι', w, r', (((hext.trans e1).trans e2).trans e3).trans e', xr⟩
theorem se_make (g : Gd X nm nms C G fl fx) {c gf : Nat} {es : List Expr} {ms : List Ex} {p pos : Pos} (hf : fl.mkc c gf = true) (hg : Gl X (nms c)) (hdb : (nms c == ("__debug__" : Str)) = false) (ha : PA X es (tA X.K nm fx (evs C G ms))) (hnil : es = [] → ms = []) (hs : ∀ e r, es = e :: r → starEach (e :: r) X.env = (false, eval e X.env) :: starEach r X.env ∧ (backTo pos (starEach r X.env)).any (·.1) = false) :
    PE X (.Call (.Name (nms c) p) es [] pos) (tE X.K nm fx (ev C G (.make c gf ms))) := by
  obtain ⟨a, fd, ps, k, hm, hmk, F, hr, hb⟩ := g.mkc c gf hf
  cases es with
  | nil =>
    obtain rfl := hnil rfl
    refine PEimp (pe_make0 hmk F hr hg hm hb .nil g.pass hdb) fun σ H Q h => ?_
    obtain ⟨ι, S, ρ, st, w⟩ := h
    simp only [ev, evs, R.bind_ok] at w
    intro x dx hx hd hne
    show spF X.K nm nms (C gf) (.ref x :: ([] ++ [])) _ _ _
    exact make_go (ds := []) (vs := []) st.ext st.rel .refl rfl hx hd hne w
  | cons e r =>
    obtain ⟨s1, s2⟩ := hs e r rfl
    refine PEimp (pe_make hmk F hr hg hm hb .nil g.pass ha hdb s1 s2) fun σ H Q h => ?_
    obtain ⟨ι, S, ρ, st, w⟩ := h
    simp only [ev] at w
    refine ⟨ι, S, ρ, st, w.bind.mono fun ds S1 w1 vs ι1 H1 r1 e1 p1 => ?_⟩
    intro x dx hx hd hne
    show spF X.K nm nms (C gf) (.ref x :: (vs ++ [])) _ _ _
    rw [List.append_nil]
    exact make_go st.ext r1 e1 p1 hx hd hne w1
theorem ss_setA (g : Gd X nm nms C G fl fx) {c : Nat} {o e : Expr} {mo m : Ex} {f : Str} {pos p2 : Pos} (hf : fl.fld c f = true) (h : PE X e (tE X.K nm fx (ev C G m))) (ho : PE X o (tE X.K nm fx (ev C G mo))) (hs : swapsWith e (some (.Attribute o f p2)) pos.line X.env = pure false) : PS X (.Assign [.Attribute o f p2] e pos) (tS X.K nm fx (ex C G (.setA c mo f m))) := by
  obtain ⟨hc, hn⟩ := g.cls c f hf
  refine PSimp (ps_fld ho h hs) fun D σ H h => ?_
  obtain ⟨ι, S, ρ, st, w⟩ := h
  simp only [ex] at w
  refine ⟨ι, S, ρ, st, w.o.mono fun d S1 w1 v ι1 H1 r1 e1 p1 => ?_⟩
  refine ⟨ι1, S1, ρ, st.on r1 e1, w1.o.mono fun x S2 w2 xv ι2 H2 r2 e2 p2 => ?_⟩
  replace w2 := w2.o
  unfold setAV at w2
  split at w2
  case h_2 => exact w2.elim
  rename_i n
  split at w2
  case h_2 => exact w2.elim
  rename_i fs hfs
  split at w2
  case isFalse => exact w2.elim
  rename_i hl
  obtain ⟨a, dx, gs, hs', rfl, hi, h3, h4⟩ := ins_ref r2 p2 hfs
  obtain ⟨r4, e4⟩ := r2.putO (u := .ins (nm c) dx (putF f v gs)) (o2 := .ins c (putFD f d fs)) hi hs' ⟨dx, _, rfl, putF_rep f h4 (p1.mono r1 e2)⟩
  exact ⟨a, nm c, dx, gs, rfl, h3, hc, hn, by rw [h4.length]; exact hl, w2 σ ι2 _ (((st.on r1 e1).on r2 e2).on r4 e4) ((e1.trans e2).trans e4)⟩
end
end Pl

set_option maxHeartbeats 4000000
/-! sorted of texts; two stores; a, b = x, y. -/
namespace Pl
open PySem L2
theorem lt_le (a b : List Nat) : (!Spec.ltCps b a) = decide (a ≤ b) := by
  rw [PyProof.Rows.ltCps_eq]
  by_cases h : b < a
  · rw [decide_eq_true h, decide_eq_false (fun h2 => List.not_le.mpr h h2)]
    rfl
  · rw [decide_eq_false h, decide_eq_true (List.not_lt.mp h)]
    rfl
theorem rising_pw : ∀ (r : List Str) (p : Str), PyProof.Rows.risingS p r = true → (p :: r).Pairwise (fun a b => a.cps.toList ≤ b.cps.toList)
  | [], p, _ => List.pairwise_singleton _ _
  | x :: r, p, h => by
    have h' : (!Spec.ltCps x.cps.toList p.cps.toList) = true ∧ PyProof.Rows.risingS x r = true := by simpa [PyProof.Rows.risingS] using h
    have ih := rising_pw r x h'.2
    have hx : p.cps.toList ≤ x.cps.toList := by
      have := h'.1
      rw [lt_le] at this
      exact of_decide_eq_true this
    refine List.pairwise_cons.mpr ⟨fun y hy => ?_, ih⟩
    rcases List.mem_cons.mp hy with rfl | hy
    · exact hx
    · exact List.le_trans hx ((List.pairwise_cons.mp ih).1 y hy)
theorem sort_one {ys : List Str} {xs : List (List Nat)} (hp : ys.Perm (xs.map strOf)) (hs : PyProof.Rows.sortedS ys = true) : ys = (sortL xs).map strOf := by
  have e1 : ys.map (fun y => y.cps.toList) = sortL xs := by
    have p1 : (ys.map fun y => y.cps.toList).Perm xs := by
      have := hp.map fun y : Str => y.cps.toList
      rw [List.map_map] at this
      have e : (fun y : Str => y.cps.toList) ∘ strOf = id := by funext x; exact strOf_list x
      rw [e, List.map_id] at this
      exact this
    have w1 : (ys.map fun y => y.cps.toList).Pairwise (· ≤ ·) := by
      rw [List.pairwise_map]
      cases ys with
      | nil => exact List.Pairwise.nil
      | cons y r => exact rising_pw r y hs
    have e : (fun a b : List Nat => !Spec.ltCps b a) = fun a b => decide (a ≤ b) := by funext a b; exact lt_le a b
    have w2 : (sortL xs).Pairwise (· ≤ ·) := by
      unfold sortL
      rw [e]
      have := List.pairwise_mergeSort (le := fun a b : List Nat => decide (a ≤ b)) (fun a b c h1 h2 => by
        have h1 := of_decide_eq_true h1
        have h2 := of_decide_eq_true h2
        exact decide_eq_true (List.le_trans h1 h2)) (fun a b => by
        rcases List.le_total a b with h | h
        · rw [decide_eq_true h]; rfl
        · rw [decide_eq_true h, Bool.or_true]) xs
      exact this.imp fun h => of_decide_eq_true h
    exact List.Perm.eq_of_pairwise (fun a b _ _ h1 h2 => List.le_antisymm h1 h2) w1 w2 (p1.trans (List.mergeSort_perm xs _).symm)
  rw [← e1, List.map_map]
  have : strOf ∘ (fun y : Str => y.cps.toList) = id := by funext y; exact str_back y
  rw [this, List.map_id]
section
variable {X : Cx} {nm : Nat → Addr} {nms : Nat → Str} {C : Nat → List D → Sto → R D} {G : Nat → Option D} {fl : Fl} {fx : Fx} {ι : Io} {S : Sto} {H : Hp} {K : PySem.W.Frag}
theorem strs_reps : ∀ xs : List (List Nat), Reps K nm ι H (xs.map D.str) ((xs.map strOf).map V.str)
  | [] => rfl
  | x :: xs => ⟨_, _, rfl, rfl, strs_reps xs⟩
theorem sf_sortT (g : Gd X nm nms C G fl fx) {e : Expr} {m : Sq} {p pos : Pos} (h : PE X e (tQ X.K nm fx (evQ C G m))) (hg : Gl X "sorted") (he : starEach [e] X.env = (false, eval e X.env) :: starEach [] X.env) : PE X (.Call (.Name "sorted" p) [e] [] pos) (tF X.K nm fx (evF C G (.sortT m))) := by
  refine PEimp (pe_callB cr_sortedS hg (g.blt _ (by simp [blts])) (by decide +kernel) (pa_one h he) (by decide) (by decide) he) fun σ H Q h => ?_
  obtain ⟨ι, S, ρ, st, w⟩ := h
  simp only [evF] at w
  refine ⟨ι, S, ρ, st, w.bind.mono fun sv S1 w1 a ι1 H1 r1 e1 p1 => ?_⟩
  obtain ⟨xs, h1, h2, _, h4⟩ := sq_at r1 p1
  split at w1
  · rename_i ys hys
    split at hys
    · cases hys
    · rename_i ht
      split at w1
      · rename_i hl
        have e4 := strs_rep hys h4
        refine ⟨a, ys.map strOf, rfl, by rw [← e4]; exact h2 (by simpa using ht), by rw [List.length_map]; exact hl, fun zs q hp hs hq => ?_⟩
        rw [sort_one hp hs]
        obtain ⟨r2, e2⟩ := r1.side (o := .lst (((sortL ys).map strOf).map V.str)) hq
        exact w1 q _ ι1 _ r2 (e1.trans e2) (none_of e1 hq (r1.free hq)) upd_same (r1.free hq) (strs_reps _)
      · exact w1.elim
  · exact w1.elim
theorem set_dict (hu : X.A.units + 1 < cLine) : PSet X (fun o i v H Q => ∃ a H', o = .ref a ∧ DPut H a i v H' ∧ Q H') := by
  intro pins s σ H o i v ov iv u Q I ro ri rv h
  obtain ⟨a, H', rfl, hp, q⟩ := h
  obtain rfl : ov = Value.ref a := ro
  exact d_setItem hu I hp ri rv fun s' I' => ⟨H', I', q⟩
theorem dput_go {x y d : D} {vx vy v : V} {XW : Xc → Sto → Prop} {P : Unit → Sto → Prop} {Q : Hp → Prop} (r3 : Rel K nm ι S H) (px : Rep K nm ι H x vx) (py : Rep K nm ι H y vy) (pd : Rep K nm ι H d v) (w : Wg (dputV x y d S) P XW) (k : ∀ S' H', P () S' → Rel K nm ι S' H' → Ex' ι H ι H' → Q H') : ∃ a H', vx = .ref a ∧ DPut H a vy v H' ∧ Q H' := by
  unfold dputV at w
  split at w
  case h_2 => exact w.elim
  rename_i n key hk
  split at w
  case h_2 => exact w.elim
  rename_i kvs hkv
  split at w
  case isFalse => exact w.elim
  rename_i hl
  obtain ⟨a, xs, rfl, hn, h3, h4⟩ := r3.dct hkv px
  obtain ⟨r4, e4⟩ := r3.putO (u := .dK (putK xs key v)) (o2 := .dct (putD kvs key d)) hn hkv ⟨_, rfl, put_rep key h4 pd⟩
  rw [key_rep hk py]
  exact ⟨a, _, rfl, DPut.k h3 (by rw [h4.length]; exact Nat.lt_of_lt_of_le hl (by decide)), k _ _ w r4 e4⟩
theorem ss_dput2 (g : Gd X nm nms C G fl fx) {o i p j e : Expr} {mo mi mp mj m : Ex} {pos p2 p3 : Pos} (h : PE X e (tE X.K nm fx (ev C G m))) (ho : PE X o (tE X.K nm fx (ev C G mo))) (hi : PE X i (tE X.K nm fx (ev C G mi))) (hp : PE X p (tE X.K nm fx (ev C G mp))) (hj : PE X j (tE X.K nm fx (ev C G mj)))
    (ha : ∀ v, assign (.Subscript o i p2) X.env v = (do
      let ov ← holding [v] (eval o X.env)
      let iv ← holding [v, ov] (eval i X.env)
      standAt p2
      holding [v, ov, iv] (setItem ov iv v)
      release [v, ov, iv] []))
    (ha2 : ∀ v, assign (.Subscript p j p3) X.env v = (do
      let ov ← holding [v] (eval p X.env)
      let iv ← holding [v, ov] (eval j X.env)
      standAt p3
      holding [v, ov, iv] (setItem ov iv v)
      release [v, ov, iv] [])) : PS X (.Assign [.Subscript o i p2, .Subscript p j p3] e pos) (tS X.K nm fx (ex C G (.dput2 mo mi mp mj m))) := by
  refine PSimp (ps_asg2 h (pg_sub ho hi (set_dict (cl1 g)) ha) (pg_sub hp hj (set_dict (cl1 g)) ha2) rfl rfl) fun D σ H h => ?_
  obtain ⟨ι, S, ρ, st, w⟩ := h
  simp only [ex] at w
  refine ⟨ι, S, ρ, st, w.o.mono fun d S1 w1 v ι1 H1 r1 e1 p1 => ?_⟩
  refine ⟨ι1, S1, ρ, st.on r1 e1, w1.o.mono fun x S2 w2 xv ι2 H2 r2 e2 p2 => ?_⟩
  refine ⟨ι2, S2, ρ, (st.on r1 e1).on r2 e2, w2.o.mono fun y S3 w3 yv ι3 H3 r3 e3 p3 => ?_⟩
  have st3 := ((st.on r1 e1).on r2 e2).on r3 e3
  refine dput_go r3 (p2.mono r2 e3) p3 (p1.mono r1 (e2.trans e3)) w3.o fun S4 H4 w4 r4 e4 => ?_
  refine ⟨ι3, S4, ρ, st3.on r4 e4, w4.o.mono fun x2 S5 w5 xv2 ι5 H5 r5 e5 p5 => ?_⟩
  refine ⟨ι5, S5, ρ, (st3.on r4 e4).on r5 e5, w5.o.mono fun y2 S6 w6 yv2 ι6 H6 r6 e6 p6 => ?_⟩
  refine dput_go r6 (p5.mono r5 e6) p6 ((((p1.mono r1 (e2.trans e3)).mono r3 e4).mono r4 e5).mono r5 e6) w6.o fun S7 H7 w7 r7 e7 => ?_
  exact w7 σ ι6 H7 ((((st3.on r4 e4).on r5 e5).on r6 e6).on r7 e7) ((((((e1.trans e2).trans e3).trans e4).trans e5).trans e6).trans e7)
/-- a, b = x, y stores from the right -/
def swB (sc : Scope) (x y : Str) (px py : Pos) (a b : Expr) : Bool := decide (sc.names.lookup x = some .local) && decide (sc.names.lookup y = some .local) && decide (x ≠ y) && (py.line == px.line) && (match a with | .Starred .. => false | _ => true) && (match b with | .Starred .. => false | _ => true) && !([a, b].all (foldedForSure 8)) && !([a, b].all (constantsAlone 8))
theorem sw_two {x y : Str} {px py pt p2 : Pos} {kt k2 : Nat} {a b : Expr} {env : Env} (hk : env.scope.kind = .function) (h : swB env.scope x y px py a b = true) : swappedStores [.Tuple [.Name x px, .Name y py] kt pt] (.Tuple [a, b] k2 p2) env = pure (some [x, y]) := by
  unfold swB at h
  simp only [Bool.and_eq_true, decide_eq_true_eq, Bool.not_eq_true'] at h
  obtain ⟨⟨⟨⟨⟨⟨⟨h1, h2⟩, h3⟩, h4⟩, h5⟩, h6⟩, h7⟩, h8⟩ := h
  have hb : env.blockKind = .function := by unfold Env.blockKind; rw [hk]; rfl
  have k1 : env.kindOf x = some .local := h1
  have k2 : env.kindOf y = some .local := h2
  have hs : ([a, b].any fun | .Starred .. => true | _ => false) = false := by
    cases a <;> cases b <;> first | rfl | (cases h5; done) | (cases h6; done)
  have e1 : ([.Name x px, .Name y py] : List Expr).filterMap (fun e => match e with
    | .Name id pos => if env.kindOf id == some .local && pos.line == px.line then some id else none
    | _ => none) = [x, y] := by
    have q1 : (env.kindOf x == some NameKind.local && px.line == px.line) = true := by rw [k1]; simp
    have q2 : (env.kindOf y == some NameKind.local && py.line == px.line) = true := by rw [k2, h4]; rfl
    simp only [List.filterMap_cons, List.filterMap_nil, if_pos q1, if_pos q2]
  have ed : ([x, y] : List Str).eraseDups.length = 2 := by
    have : (y == x) = false := by simpa using fun e : y = x => h3 e.symm
    simp [List.eraseDups_cons, this]
  have c2 : ((([.Name x px, .Name y py] : List Expr).filterMap (fun e => match e with
    | .Name id pos => if env.kindOf id == some .local && pos.line == px.line then some id else none
    | _ => none)).length != 2 || (([.Name x px, .Name y py] : List Expr).filterMap (fun e => match e with
    | .Name id pos => if env.kindOf id == some .local && pos.line == px.line then some id else none
    | _ => none)).eraseDups.length != (([.Name x px, .Name y py] : List Expr).filterMap (fun e => match e with
    | .Name id pos => if env.kindOf id == some .local && pos.line == px.line then some id else none
    | _ => none)).length) = false := by rw [e1, ed]; rfl
  have c1 : (!((2 : Nat) == 2 || (2 : Nat) == 3) || (2 : Nat) != 2 || env.blockKind != .function) = false := by rw [hb]; rfl
  unfold swappedStores
  show (if (!((2 : Nat) == 2 || (2 : Nat) == 3) || (2 : Nat) != 2 || env.blockKind != .function) = true then pure none else _) = _
  rw [c1, if_neg Bool.false_ne_true]
  show (if ([a, b].any fun | .Starred .. => true | _ => false) = true then pure none else _) = _
  rw [hs, if_neg Bool.false_ne_true]
  refine Eq.trans (if_neg (fun z => Bool.false_ne_true (c2.symm.trans z))) ?_
  rw [if_neg (by rw [h7]; exact Bool.false_ne_true)]
  show (if ([a, b].all (constantsAlone 8)) = true then _ else _) = _
  rw [if_neg (by rw [h8]; exact Bool.false_ne_true)]
  exact congrArg (fun z => (pure (some z) : Sem (Option (List Str)))) e1
theorem ss_par2 (g : Gd X nm nms C G fl fx) {i j : Nat} {x y : Str} {a b : Expr} {ma mb : Ex} {px py pt pos p2 : Pos} {kt k2 : Nat} (hi : X.N[i]? = some x) (hj : X.N[j]? = some y) (hij : i ≠ j) (hk : X.env.scope.kind = .function) (hsw : swB X.env.scope x y px py a b = true)
    (ha : PA X [a, b] (tA X.K nm fx (evs C G [ma, mb]))) : PS X (.Assign [.Tuple [.Name x px, .Name y py] kt pt] (.Tuple [a, b] k2 p2) pos) (tS X.K nm fx (ex C G (.par2 i j ma mb))) := by
  have hsw' := hsw
  unfold swB at hsw'
  simp only [Bool.and_eq_true, decide_eq_true_eq] at hsw'
  refine PSimp (ps_par g.calm g.nd hi hj hij hsw'.1.1.1.1.1.1.1 hsw'.1.1.1.1.1.1.2 ha (sw_two hk hsw) rfl) fun D σ H h => ?_
  obtain ⟨ι, S, ρ, st, w⟩ := h
  simp only [ex] at w
  refine ⟨ι, S, ρ, st, ?_⟩
  simp only [evs]
  refine Wg.of_bind (w.o.mono fun d S1 w1 => ?_)
  refine Wg.of_bind (Wg.of_bind (w1.o.mono fun d2 S2 w2 => ?_))
  intro vs ι1 H1 r1 e1 p1
  obtain ⟨v1, w1', rfl, h1, v2, w2', rfl, h2, h3⟩ := p1
  cases h3
  exact ⟨v1, v2, rfl, w2 _ ι1 H1 (((st.on r1 e1).set h1).set h2) e1⟩
end
end Pl

set_option maxHeartbeats 4000000
/-! Calls that leave nothing behind. -/
namespace Pl
open PySem L2
section
variable {X : Cx} {nm : Nat → Addr} {nms : Nat → Str} {C : Nat → List D → Sto → R D} {G : Nat → Option D} {fl : Fl} {fx : Fx} {ι ι' : Io} {S : Sto} {H H' : Hp} {K : PySem.W.Frag}
theorem mapO_rep {f : D → Option D} (h : ∀ d d' v, f d = some d' → Rep K nm ι H d v → Rep K nm ι' H d' v) : ∀ {ds ds' : List D} {vs : List V}, mapO f ds = some ds' → Reps K nm ι H ds vs → Reps K nm ι' H ds' vs
  | [], ds', vs, e, r => by cases e; exact r
  | d :: ds, ds', vs, e, r => by
    obtain ⟨v, w, rfl, r1, r2⟩ := r
    simp only [mapO] at e
    split at e
    · rename_i b bs h1 h2
      cases e
      exact ⟨v, w, rfl, h _ _ _ h1 r1, mapO_rep h h2 r2⟩
    · cases e
theorem mapO_len {α β : Type} {f : α → Option β} : ∀ {ds : List α} {ds' : List β}, mapO f ds = some ds' → ds'.length = ds.length
  | [], ds', e => by cases e; rfl
  | d :: ds, ds', e => by
    simp only [mapO] at e
    split at e
    · rename_i b bs h1 h2
      cases e
      simp [mapO_len h2]
    · cases e
theorem repK_zip {κ : Type} : ∀ {kvs : List (κ × D)} {xs : List (κ × V)}, RepK K nm ι H kvs xs → xs = (kvs.map (·.1)).zip (xs.map (·.2)) ∧ Reps K nm ι H (kvs.map (·.2)) (xs.map (·.2))
  | [], xs, r => by cases r; exact ⟨rfl, rfl⟩
  | kd :: kvs, xs, r => by
    obtain ⟨v, w, rfl, r1, r2⟩ := r
    obtain ⟨i1, i2⟩ := repK_zip r2
    refine ⟨?_, v, _, rfl, r1, i2⟩
    exact congrArg (fun z => (kd.1, v) :: z) i1
theorem frz_rep (r : Rel K nm ι S H) {m : Nat} (le : Io.Le K m ι H ι' H) (hz : ∀ (n : Nat) (a : Addr), m ≤ n → ι.st[n]? = some a → a ∈ ι'.fz) : ∀ (k : Nat) (d d' : D) (v : V), frz S m k d = some d' → Rep K nm ι H d v → Rep K nm ι' H d' v
  | 0, d, d', v, e, h => by
    simp only [frz] at e
    split at e
    · rename_i c
      cases e
      exact h.toM le c
    · cases e
  | k + 1, d, d', v, e, h => by
    simp only [frz] at e
    split at e
    · rename_i c
      cases e
      exact h.toM le c
    · rename_i c
      cases d <;> first
        | (cases e; done)
        | skip
      case ref n =>
        have hn : m ≤ n := by
          have : ¬ n < m := fun q => c (decide_eq_true q)
          omega
        simp only at e
        split at e
        · rename_i ds hs
          obtain ⟨a, xs, rfl, h1, h2, h3⟩ := r.ref hs h
          simp only [Option.map_eq_some_iff] at e
          obtain ⟨ds', e1, rfl⟩ := e
          exact ⟨a, xs, rfl, ⟨hz n a hn h1, h2⟩, mapO_rep (fun d d' v => frz_rep r le hz k d d' v) e1 h3⟩
        · rename_i kvs hs
          obtain ⟨a, u, rfl, h1, h2, xs, rfl, h3⟩ := r.refO hs h
          simp only [Option.map_eq_some_iff] at e
          obtain ⟨ds', e1, rfl⟩ := e
          obtain ⟨z1, z2⟩ := repK_zip h3
          rw [z1] at h2
          exact ⟨a, _, rfl, ⟨hz n a hn h1, h2⟩, by rw [mapO_len e1]; simp, mapO_rep (fun d d' v => frz_rep r le hz k d d' v) e1 z2⟩
        · rename_i cc fs hs
          obtain ⟨a, u, rfl, h1, h2, dx, xs, rfl, h3⟩ := r.refO hs h
          simp only [Option.map_eq_some_iff] at e
          obtain ⟨ds', e1, rfl⟩ := e
          obtain ⟨z1, z2⟩ := repK_zip h3
          rw [z1] at h2
          exact ⟨a, dx, _, rfl, ⟨hz n a hn h1, h2⟩, by rw [mapO_len e1]; simp, mapO_rep (fun d d' v => frz_rep r le hz k d d' v) e1 z2⟩
        · cases e
      case tup ds =>
        obtain ⟨a, xs, rfl, h1, h2⟩ := h
        simp only [Option.map_eq_some_iff] at e
        obtain ⟨ds', e1, rfl⟩ := e
        exact ⟨a, xs, rfl, le.tu _ _ h1, mapO_rep (fun d d' v => frz_rep r le hz k d d' v) e1 h2⟩
      case fro ds =>
        obtain ⟨a, xs, rfl, h1, h2⟩ := h
        simp only [Option.map_eq_some_iff] at e
        obtain ⟨ds', e1, rfl⟩ := e
        exact ⟨a, xs, rfl, le.sqz h1, mapO_rep (fun d d' v => frz_rep r le hz k d d' v) e1 h2⟩
theorem mapO_closed {m : Nat} {f : D → Option D} (h : ∀ d d', f d = some d' → closedD m d' = true) : ∀ {ds ds' : List D}, mapO f ds = some ds' → closedL m ds' = true
  | [], ds', e => by cases e; rfl
  | d :: ds, ds', e => by
    simp only [mapO] at e
    split at e
    · rename_i b bs h1 h2
      cases e
      exact Bool.and_eq_true_iff.mpr ⟨h _ _ h1, mapO_closed h h2⟩
    · cases e
theorem frz_closed {S : Sto} {m : Nat} : ∀ (k : Nat) (d d' : D), frz S m k d = some d' → closedD m d' = true
  | 0, d, d', e => by
    simp only [frz] at e
    split at e
    · rename_i c
      cases e
      exact c
    · cases e
  | k + 1, d, d', e => by
    simp only [frz] at e
    split at e
    · rename_i c
      cases e
      exact c
    · cases d <;> first
        | (cases e; done)
        | skip
      case ref n =>
        simp only at e
        split at e <;> first
          | (cases e; done)
          | skip
        all_goals
          simp only [Option.map_eq_some_iff] at e
          obtain ⟨ds', e1, rfl⟩ := e
          exact mapO_closed (frz_closed k) e1
      case tup ds =>
        simp only [Option.map_eq_some_iff] at e
        obtain ⟨ds', e1, rfl⟩ := e
        exact mapO_closed (frz_closed k) e1
      case fro ds =>
        simp only [Option.map_eq_some_iff] at e
        obtain ⟨ds', e1, rfl⟩ := e
        exact mapO_closed (frz_closed k) e1
mutual
theorem Rep.toN {m : Nat} (pl : ∀ (i : Nat) (a : Addr), i < m → ι.st[i]? = some a → ι'.st[i]? = some a) : ∀ {d : D} {v : V}, noF d = true → closedD m d = true → Rep K nm ι H d v → Rep K nm ι' H d v
  | .non, _, _, _, h => h
  | .bl _, _, _, _, h => h
  | .int _, _, _, _, h => h
  | .str _, _, _, _, h => h
  | .gl _, _, _, _, h => h
  | .tup ds, _, n, c, h => by
    obtain ⟨a, xs, h1, h2, h3⟩ := h
    exact ⟨a, xs, h1, h2, Reps.toN pl n c h3⟩
  | .ref _, _, _, c, h => by
    obtain ⟨a, h1, h2⟩ := h
    exact ⟨a, pl _ _ (of_decide_eq_true c) h1, h2⟩
theorem Reps.toN {m : Nat} (pl : ∀ (i : Nat) (a : Addr), i < m → ι.st[i]? = some a → ι'.st[i]? = some a) : ∀ {ds : List D} {vs : List V}, noFL ds = true → closedL m ds = true → Reps K nm ι H ds vs → Reps K nm ι' H ds vs
  | [], _, _, _, h => h
  | d :: ds, _, n, c, h => by
    obtain ⟨v, w, h1, h2, h3⟩ := h
    obtain ⟨c1, c2⟩ := Bool.and_eq_true_iff.mp c
    obtain ⟨n1, n2⟩ := Bool.and_eq_true_iff.mp n
    exact ⟨v, w, h1, Rep.toN pl n1 c1 h2, Reps.toN pl n2 c2 h3⟩
end
theorem RepK.toN {κ : Type} {m : Nat} (pl : ∀ (i : Nat) (a : Addr), i < m → ι.st[i]? = some a → ι'.st[i]? = some a) : ∀ {ds : List (κ × D)} {vs : List (κ × V)}, noFL (ds.map (·.2)) = true → closedL m (ds.map (·.2)) = true → RepK K nm ι H ds vs → RepK K nm ι' H ds vs
  | [], _, _, _, h => h
  | d :: ds, _, n, c, h => by
    obtain ⟨v, w, h1, h2, h3⟩ := h
    obtain ⟨c1, c2⟩ := Bool.and_eq_true_iff.mp c
    obtain ⟨n1, n2⟩ := Bool.and_eq_true_iff.mp n
    exact ⟨v, w, h1, Rep.toN pl n1 c1 h2, RepK.toN pl n2 c2 h3⟩
theorem ObU.toN {m : Nat} (pl : ∀ (i : Nat) (a : Addr), i < m → ι.st[i]? = some a → ι'.st[i]? = some a) {o : Ob} {u : HO} (n : noFL o.ds = true) (c : closedL m o.ds = true) (h : ObU K nm ι H o u) : ObU K nm ι' H o u := by
  cases o
  · obtain ⟨xs, h1, h2⟩ := h
    exact ⟨xs, h1, Reps.toN pl n c h2⟩
  · obtain ⟨xs, h1, h2⟩ := h
    exact ⟨xs, h1, RepK.toN pl n c h2⟩
  · obtain ⟨dx, xs, h1, h2⟩ := h
    exact ⟨dx, xs, h1, RepK.toN pl n c h2⟩
theorem closedS_at {m : Nat} : ∀ {S : Sto} {i : Nat} {o : Ob}, closedS m S = true → S[i]? = some o → closedL m o.ds = true
  | o :: S, 0, _, c, e => by cases e; exact (Bool.and_eq_true_iff.mp c).1
  | o :: S, i + 1, _, c, e => closedS_at (Bool.and_eq_true_iff.mp c).2 (by simpa using e)
theorem noFS_at : ∀ {S : Sto} {i : Nat} {o : Ob}, noFS S = true → S[i]? = some o → noFL o.ds = true
  | o :: S, 0, _, c, e => by cases e; exact (Bool.and_eq_true_iff.mp c).1
  | o :: S, i + 1, _, c, e => noFS_at (Bool.and_eq_true_iff.mp c).2 (by simpa using e)
/-- what a call may see -/
def Io.cut (ι : Io) (m : Nat) (b : Bool) : Io := ⟨ι.st.take m, ι.fz ++ (if b = true then ι.st.drop m else [])⟩
/-- what stands behind it -/
def Io.back (ι : Io) (m : Nat) (ι' : Io) : Io := ⟨ι.st, (ι'.fz ++ ι'.st.drop m).filter fun a => decide (a ∉ ι.st)⟩
theorem take_at {α : Type} {xs : List α} {m i : Nat} {a : α} (h : (xs.take m)[i]? = some a) : i < m ∧ xs[i]? = some a := by
  rw [List.getElem?_take] at h
  split at h
  · exact ⟨by assumption, h⟩
  · cases h
theorem Rel.cut (r : Rel K nm ι S H) {m : Nat} {b : Bool} (c : closedS m (S.take m) = true) : Rel K nm (ι.cut m b) (S.take m) H ∧ Io.Le K m ι H (ι.cut m b) H := by
  have le : Io.Le K m ι H (ι.cut m b) H := ⟨fun i a hi h => by
      show (ι.st.take m)[i]? = _
      rw [List.getElem?_take, if_pos hi]
      exact h, fun _ _ z => z, fun _ _ z => z, fun a z => ⟨List.mem_append_left _ z, rfl⟩⟩
  have nd := r.nd
  rw [← List.take_append_drop m ι.st, List.nodup_append] at nd
  refine ⟨⟨by show (ι.st.take m).length = _; rw [List.length_take, List.length_take, r.len], nd.1, fun a ha hm => ?_, fun a ha => ?_, fun i a o h1 h2 => ?_⟩, le⟩
  · rcases List.mem_append.mp ha with ha | ha
    · exact r.dj a ha (List.mem_of_mem_take hm)
    · split at ha
      · exact nd.2.2 a hm a ha rfl
      · cases ha
  · rcases List.mem_append.mp ha with ha | ha
    · exact r.tr a ha
    · split at ha
      · intro e
        exact (Io.nmem.mp (r.free e)).1 (List.mem_of_mem_drop ha)
      · cases ha
  · obtain ⟨hi, h1⟩ := take_at h1
    obtain ⟨_, h2'⟩ := take_at h2
    obtain ⟨u, q1, q2⟩ := r.ob i a o h1 h2'
    exact ⟨u, q1, q2.toM le (closedS_at c h2)⟩
theorem Rel.back {m : Nat} {b : Bool} {S2 : Sto} (r : Rel K nm ι S H) (hm : m ≤ S.length) (r' : Rel K nm ι' S2 H') (e : Ex' (ι.cut m b) H ι' H') (c : closedS m (S2.take m) = true) (nf : b = false ∨ noFS (S2.take m) = true) :
    Rel K nm (ι.back m ι') (S2.take m ++ S.drop m) H' ∧ Ex' ι H (ι.back m ι') H' ∧
    (∀ (i : Nat) (a : Addr), i < m → ι'.st[i]? = some a → (ι.back m ι').st[i]? = some a) ∧
    ∀ k d d' v, frz S2 m k d = some d' → (b = false ∨ noF d' = true) → Rep K nm ι' H' d v → Rep K nm (ι.back m ι') H' d' v := by
  have hl : m ≤ ι.st.length := by rw [r.len]; exact hm
  obtain ⟨t, et⟩ := e.pre
  have htk : (ι.st.take m).length = m := by rw [List.length_take]; omega
  have etake : ι'.st = ι.st.take m ++ t := et
  have edrop : ι'.st.drop m = t := by rw [etake, List.drop_append_of_le_length (by omega), List.drop_of_length_le (by omega), List.nil_append]
  have hl2 : m ≤ S2.length := by rw [← r'.len, etake, List.length_append]; omega
  have nd := r.nd
  rw [← List.take_append_drop m ι.st, List.nodup_append] at nd
  have nd' := r'.nd
  rw [etake, List.nodup_append] at nd'
  have low : ∀ a ∈ ι.st.take m, a ∉ ι'.fz := fun a ha hf => r'.dj a hf (by rw [etake]; exact List.mem_append_left _ ha)
  have trk : ∀ a ∈ ι.st, ∃ o, H a = some o := fun a ha => by
    cases q : H a with
    | none => exact absurd ha (Io.nmem.mp (r.free q)).1
    | some o => exact ⟨o, rfl⟩
  -- places from m on stay as they are
  have high : ∀ a ∈ ι.st.drop m, H' a = H a ∧ a ∉ t ∧ (b = false → a ∉ ι'.fz) := fun a ha => by
    cases b with
    | true =>
      obtain ⟨z1, z2⟩ := e.fzs a (List.mem_append_right _ (by rw [if_pos rfl]; exact ha))
      refine ⟨z2, fun ht => r'.dj a z1 ?_, fun q => by cases q⟩
      rw [etake]
      exact List.mem_append_right _ ht
    | false =>
      obtain ⟨o, ho⟩ := trk a (List.mem_of_mem_drop ha)
      have hn : a ∉ ι.cut m false := Io.nmem.mpr ⟨fun q => nd.2.2 a q a ha rfl, fun q => by
        rcases List.mem_append.mp q with q | q
        · exact r.dj a q (List.mem_of_mem_drop ha)
        · rw [if_neg Bool.false_ne_true] at q
          cases q⟩
      obtain ⟨z1, z2⟩ := e.keep a o ho hn
      obtain ⟨n1, n2⟩ := Io.nmem.mp z2
      refine ⟨z1.trans ho.symm, fun ht => n1 ?_, fun _ => n2⟩
      rw [etake]
      exact List.mem_append_right _ ht
  have tfree : ∀ a ∈ t, a ∉ ι.st := fun a ha hs => by
    rw [← List.take_append_drop m ι.st] at hs
    rcases List.mem_append.mp hs with hs | hs
    · exact nd'.2.2 a hs a ha rfl
    · exact (high a hs).2.1 ha
  have ffree : b = false → ∀ a ∈ ι'.fz, a ∉ ι.st := fun hb a ha hs => by
    rw [← List.take_append_drop m ι.st] at hs
    rcases List.mem_append.mp hs with hs | hs
    · exact low a hs ha
    · exact (high a hs).2.2 hb ha
  have inF : ∀ a, a ∈ (ι.back m ι').fz ↔ (a ∈ ι'.fz ∨ a ∈ t) ∧ a ∉ ι.st := fun a => by
    show a ∈ List.filter _ _ ↔ _
    rw [List.mem_filter, List.mem_append, edrop, decide_eq_true_eq]
  have pl : ∀ (i : Nat) (a : Addr), i < m → ι'.st[i]? = some a → (ι.back m ι').st[i]? = some a := fun i a hi h => by
    show ι.st[i]? = _
    rw [etake, List.getElem?_append_left (by omega), List.getElem?_take, if_pos hi] at h
    exact h
  have hsame : ∀ a o, H a = some o → a ∉ ι.st → H' a = some o := fun a o ho hn => e.same ho fun q => hn (List.mem_of_mem_take q)
  have leO : Io.Le K ι.st.length ι H (ι.back m ι') H' := ⟨fun _ _ _ z => z, fun a xs h => by
      rcases h with (h | ⟨o, h⟩) | h
      · exact .inl (.inl (hsame a _ h fun q => (r.nt q).1 _ h))
      · exact .inl (.inr ⟨o, hsame a _ h fun q => (r.nt q).2 _ _ h⟩)
      · exact .inr h, fun a xs h => by
      rcases h with ⟨o, h⟩ | h
      · exact .inl ⟨o, hsame a _ h fun q => (r.nt q).2 _ _ h⟩
      · exact .inr h, fun a ha => by
      obtain ⟨z1, z2⟩ := e.fzs a (List.mem_append_left _ ha)
      exact ⟨(inF a).mpr ⟨.inl z1, r.dj a ha⟩, z2⟩⟩
  have leN : b = false → Io.Le K m ι' H' (ι.back m ι') H' := fun hb => ⟨pl, fun _ _ z => z, fun _ _ z => z, fun a ha => ⟨(inF a).mpr ⟨.inl ha, ffree hb a ha⟩, rfl⟩⟩
  refine ⟨⟨?_, r.nd, fun a ha => ((inF a).mp ha).2, fun a ha => ?_, fun i a o h1 h2 => ?_⟩, ⟨⟨[], by show ι.st = _; simp⟩, fun a ha => leO.fz a ha, fun a o ho hn => ?_⟩, pl, fun k d d' v hf hb h => ?_⟩
  · show ι.st.length = _
    rw [List.length_append, List.length_take, List.length_drop, r.len]
    omega
  · rcases ((inF a).mp ha).1 with z | z
    · exact r'.tr a z
    · intro q
      exact (Io.nmem.mp (r'.free q)).1 (by rw [etake]; exact List.mem_append_right _ z)
  · replace h1 : ι.st[i]? = some a := h1
    by_cases hi : i < m
    · rw [List.getElem?_append_left (by rw [List.length_take]; omega)] at h2
      obtain ⟨_, h2'⟩ := take_at h2
      have h1' : ι'.st[i]? = some a := by
        rw [etake, List.getElem?_append_left (by omega), List.getElem?_take, if_pos hi]
        exact h1
      obtain ⟨u, q1, q2⟩ := r'.ob i a o h1' h2'
      refine ⟨u, q1, ?_⟩
      rcases nf with hb | nf
      · exact q2.toM (leN hb) (closedS_at c h2)
      · exact q2.toN pl (noFS_at nf h2) (closedS_at c h2)
    · rw [List.getElem?_append_right (by rw [List.length_take]; omega), List.length_take, List.getElem?_drop] at h2
      have hk : m + (i - min m S2.length) = i := by omega
      rw [hk] at h2
      obtain ⟨u, q1, q2⟩ := r.ob i a o h1 h2
      have ha : a ∈ ι.st.drop m := by
        have z : (ι.st.drop m)[i - m]? = some a := by
          rw [List.getElem?_drop, show m + (i - m) = i by omega]
          exact h1
        exact List.mem_of_getElem? z
      exact ⟨u, (high a ha).1.trans q1, q2.toM leO q2.closed⟩
  · obtain ⟨n1, n2⟩ := Io.nmem.mp hn
    have hn' : a ∉ ι.cut m b := Io.nmem.mpr ⟨fun q => n1 (List.mem_of_mem_take q), fun q => by
      rcases List.mem_append.mp q with q | q
      · exact n2 q
      · split at q
        · exact n1 (List.mem_of_mem_drop q)
        · cases q⟩
    obtain ⟨z1, z2⟩ := e.keep a o ho hn'
    obtain ⟨n3, n4⟩ := Io.nmem.mp z2
    refine ⟨z1, Io.nmem.mpr ⟨n1, fun q => ?_⟩⟩
    rcases ((inF a).mp q).1 with q | q
    · exact n4 q
    · exact n3 (by rw [etake]; exact List.mem_append_right _ q)
  · have h2 : Rep K nm ⟨ι'.st, ι'.fz ++ t⟩ H' d' v := by
      refine frz_rep (ι' := ⟨ι'.st, ι'.fz ++ t⟩) r' (m := m) ⟨fun _ _ _ z => z, fun _ _ z => z, fun _ _ z => z, fun a z => ⟨List.mem_append_left _ z, rfl⟩⟩ (fun n a hn ha => ?_) k d d' v hf h
      refine List.mem_append_right _ ?_
      rw [← edrop]
      have z : (ι'.st.drop m)[n - m]? = some a := by
        rw [List.getElem?_drop, show m + (n - m) = n by omega]
        exact ha
      exact List.mem_of_getElem? z
    have cl := frz_closed k d d' hf
    rcases hb with hb | hb
    · refine Rep.toM (ι := ⟨ι'.st, ι'.fz ++ t⟩) (m := m) ⟨pl, fun _ _ z => z, fun _ _ z => z, fun a ha => ⟨(inF a).mpr ?_, rfl⟩⟩ cl h2
      rcases List.mem_append.mp ha with ha | ha
      · exact ⟨.inl ha, ffree hb a ha⟩
      · exact ⟨.inr ha, tfree a ha⟩
    · exact Rep.toN (ι := ⟨ι'.st, ι'.fz ++ t⟩) (m := m) pl hb cl h2
theorem FsR.toN {m : Nat} (pl : ∀ (i : Nat) (a : Addr), i < m → ι.st[i]? = some a → ι'.st[i]? = some a) : ∀ {fs : List (Nat × D)} {gs : List (Str × V)}, (fs.all fun q => closedD 0 q.2 && noF q.2) = true → FsR K nm nms ι H fs gs → FsR K nm nms ι' H fs gs
  | [], _, _, h => h
  | (f, d) :: fs, _, c, h => by
    obtain ⟨v, w, h1, h2, h3⟩ := h
    simp only [List.all_cons, Bool.and_eq_true] at c
    exact ⟨v, w, h1, h2.toN (m := 0) (fun i a hi _ => absurd hi (Nat.not_lt_zero _)) c.1.2 c.1.1, FsR.toN pl (by simpa using c.2) h3⟩
theorem scp_go {m : Nat} {b : Bool} {r : List D → Sto → R D} {ds : List D} {vs : List V} {ι1 : Io} {S1 : Sto} {H1 : Hp} {fx : Fx} {Q : VK} (hext : Ex' fx.ι0 fx.H0 ι H) (r1 : Rel K nm ι1 S1 H1) (e1 : Ex' ι H ι1 H1) (p1 : Reps K nm ι1 H1 ds vs) (w : Wg (scp m b r ds S1) (Wv K nm ι H Q) fx.XW) :
    ∃ ι0 S0 es, Rel K nm ι0 S0 H1 ∧ Reps K nm ι0 H1 es vs ∧ Wg (r es S0) (Wv K nm ι0 H1 Q) fun x S' => ∀ cls d ι' H', Rel K nm ι' S' H' → Ex' ι0 H1 ι' H' → ExcR K nm nms ι' H' x cls d → Ew K nm nms fx cls d H' := by
  unfold scp at w
  split at w
  case isFalse => exact w.elim
  rename_i hc
  simp only [Bool.and_eq_true, decide_eq_true_eq] at hc
  obtain ⟨hm, hc⟩ := hc
  split at w
  case h_2 => exact w.elim
  rename_i es hes
  obtain ⟨r0, le⟩ := r1.cut (b := b) hc
  refine ⟨ι1.cut m b, S1.take m, es, r0, ?_, ?_⟩
  · cases b with
    | true =>
      simp only [if_pos] at hes
      refine mapO_rep (fun d d' v => frz_rep r1 le (fun n a hn ha => ?_) 6 d d' v) hes p1
      refine List.mem_append_right _ ?_
      rw [if_pos rfl]
      have z : (ι1.st.drop m)[n - m]? = some a := by
        rw [List.getElem?_drop, show m + (n - m) = n by omega]
        exact ha
      exact List.mem_of_getElem? z
    | false =>
      rw [if_neg Bool.false_ne_true] at hes
      split at hes
      · rename_i cl
        cases hes
        exact p1.toM le cl
      · cases hes
  · cases q : r es (S1.take m) with
    | bad => rw [q] at w; exact w
    | ok d S2 =>
      rw [q] at w
      simp only at w
      split at w
      case h_2 => exact w.elim
      rename_i d' hd
      split at w
      case isFalse => exact w.elim
      rename_i hk
      simp only [Bool.and_eq_true, Bool.or_eq_true, Bool.not_eq_true'] at hk
      intro v ι' H' r' e' hv
      obtain ⟨a1, a2, a3, a4⟩ := r1.back hm r' e' hk.1 (hk.2.imp id fun z => z.2)
      exact w v _ H' a1 (e1.trans a2) (a4 6 d d' v hd (hk.2.imp id fun z => z.1) hv)
    | exc x S2 =>
      rw [q] at w
      simp only at w
      split at w
      case isFalse => exact w.elim
      rename_i hk
      simp only [Bool.and_eq_true, Bool.or_eq_true, Bool.not_eq_true'] at hk
      intro cls d ι' H' r' e' xr
      obtain ⟨a1, a2, a3, a4⟩ := r1.back hm r' e' hk.1.2 hk.2
      obtain ⟨x1, dd, gs, x2, x3, x4⟩ := xr
      exact ⟨x, _, _, w, a1, (hext.trans e1).trans a2, x1, dd, gs, x2, x3, FsR.toN a3 hk.1.1 x4⟩
theorem scp_sp {m : Nat} {b : Bool} {f : Nat} {ds : List D} {vs : List V} {ι1 : Io} {S1 : Sto} {H1 : Hp} {fx : Fx} {Q : VK} (hext : Ex' fx.ι0 fx.H0 ι H) (r1 : Rel K nm ι1 S1 H1) (e1 : Ex' ι H ι1 H1) (p1 : Reps K nm ι1 H1 ds vs) (w : Wg (scp m b (C f) ds S1) (Wv K nm ι H Q) fx.XW) :
    spF K nm nms (C f) vs H1 Q (Ew K nm nms fx) := scp_go hext r1 e1 p1 w
theorem se_calls (g : Gd X nm nms C G fl fx) {m : Nat} {b : Bool} {f : Nat} {es : List Expr} {ms : List Ex} {p pos : Pos} (hf : fl.on f = true) (ha : PA X es (tA X.K nm fx (evs C G ms))) (hnil : es = [] → ms = []) (hg : Gl X (nms f)) (hdb : (nms f == ("__debug__" : Str)) = false)
    (hs : ∀ e r, es = e :: r → starEach (e :: r) X.env = (false, eval e X.env) :: starEach r X.env ∧ (backTo pos (starEach r X.env)).any (·.1) = false) : PE X (.Call (.Name (nms f) p) es [] pos) (tE X.K nm fx (ev C G (.calls m b f ms))) := by
  obtain ⟨a, fd, ps, k, hm, hk, F, hr, hbd, _⟩ := g.fns f hf
  cases es with
  | nil =>
    obtain rfl := hnil rfl
    refine PEimp (pe_call0 F hr hg hm hk hbd .nil g.pass hdb) fun σ H Q h => ?_
    obtain ⟨ι, S, ρ, st, w⟩ := h
    simp only [ev, evs, R.bind_ok] at w
    show spF X.K nm nms (C f) [] H Q (Ew X.K nm nms fx)
    exact scp_sp (ds := []) st.ext st.rel .refl rfl w
  | cons e r =>
    obtain ⟨s1, s2⟩ := hs e r rfl
    refine PEimp (pe_call F hr hg hm hk hbd .nil g.pass ha hdb s1 s2) fun σ H Q h => ?_
    obtain ⟨ι, S, ρ, st, w⟩ := h
    simp only [ev] at w
    refine ⟨ι, S, ρ, st, w.bind.mono fun ds S1 w1 vs ι1 H1 r1 e1 p1 => ?_⟩
    show spF X.K nm nms (C f) (vs ++ []) H1 Q (Ew X.K nm nms fx)
    rw [List.append_nil]
    exact scp_sp st.ext r1 e1 p1 w1
theorem se_meths (g : Gd X nm nms C G fl fx) {mm : Nat} {b : Bool} {c : Nat} {m : Str} {gf : Nat} {o : Expr} {es : List Expr} {mo : Ex} {ms : List Ex} {apos pos : Pos} (hf : fl.mth c m gf = true) (ho : PE X o (tE X.K nm fx (ev C G mo))) (ha : PA X es (tA X.K nm fx (evs C G ms))) (hnil : es = [] → ms = []) (hs : ∀ e r, es = e :: r → starEach (e :: r) X.env = (false, eval e X.env) :: starEach r X.env ∧ (backTo pos (starEach r X.env)).any (·.1) = false)
    (ht : ∃ pl : Sem Bool, eval (.Call (.Attribute o m apos) es [] pos) X.env = (do
      let ov ← eval o X.env
      standAt apos.atName
      let (f, first) ← holding [ov] (getMethod ov m pl)
      callWith pos f first (backTo pos (starEach es X.env)) (backToKw pos (keywordEach [] X.env)))) : PE X (.Call (.Attribute o m apos) es [] pos) (tE X.K nm fx (ev C G (.meths mm b c m gf mo ms))) := by
  obtain ⟨a, fd, ps, k, hc, hm, F, hr, hb⟩ := g.mth c m gf hf
  obtain ⟨pl, ht⟩ := ht
  cases es with
  | nil =>
    obtain rfl := hnil rfl
    refine PEimp (pe_meth0 (pl := pl) ho hc hm F hr hb .nil g.pass ht) fun σ H Q h => ?_
    obtain ⟨ι, S, ρ, st, w⟩ := h
    simp only [ev, evs, R.bind_ok] at w
    refine ⟨ι, S, ρ, st, w.bind.mono fun x S1 w1 v ι1 H1 r1 e1 p1 => ?_⟩
    split at w1
    · rename_i fs hfs
      obtain ⟨b', dx, gs, rfl, h3, h4⟩ := ins_read r1 p1 hfs
      split at w1
      · exact w1.elim
      · rename_i hl
        refine ⟨b', dx, gs, rfl, h3, (fld_rep m h4).2 hl, ?_⟩
        show spF X.K nm nms (C gf) (.ref b' :: ([] ++ [])) H1 Q _
        exact scp_sp (ds := [x]) st.ext r1 e1 (Reps.one p1) w1
    · exact w1.elim
  | cons e r =>
    obtain ⟨s1, s2⟩ := hs e r rfl
    refine PEimp (pe_meth (pl := pl) ho hc hm F hr hb .nil g.pass ha s1 s2 ht) fun σ H Q h => ?_
    obtain ⟨ι, S, ρ, st, w⟩ := h
    simp only [ev] at w
    refine ⟨ι, S, ρ, st, w.bind.mono fun x S1 w1 v ι1 H1 r1 e1 p1 => ?_⟩
    split at w1
    · rename_i fs hfs
      obtain ⟨b', dx, gs, rfl, h3, h4⟩ := ins_read r1 p1 hfs
      split at w1
      · exact w1.elim
      · rename_i hl
        refine ⟨b', dx, gs, rfl, h3, (fld_rep m h4).2 hl, ι1, S1, ρ, st.on r1 e1, w1.bind.mono fun ds S2 w2 vs ι2 H2 r2 e2 p2 => ?_⟩
        show spF X.K nm nms (C gf) (.ref b' :: (vs ++ [])) H2 Q _
        rw [List.append_nil]
        exact scp_sp (ds := x :: ds) st.ext r2 (e1.trans e2) ⟨_, _, rfl, p1.mono r1 e2, p2⟩ w2
    · exact w1.elim
theorem mk_go {c gf : Nat} {ds : List D} {vs : List V} {S1 : Sto} {H1 : Hp} {ι1 : Io} {Q : VK} {E : XK} {x dx : Addr} (r1 : Rel K nm ι1 S1 H1) (p1 : Reps K nm ι1 H1 ds vs) (hx : H1 x = none) (hd : H1 dx = none) (hne : dx ≠ x)
    (w : Wg (mkR C c gf ds S1) (Wv K nm ι1 H1 Q) fun x S' => ∀ cls d ι' H', Rel K nm ι' S' H' → Ex' ι1 H1 ι' H' → ExcR K nm nms ι' H' x cls d → E cls d H') : spF K nm nms (C gf) (.ref x :: vs) (upd (upd H1 dx (.own x)) x (.ins (nm c) dx [])) (fun v H2 => v = .non ∧ Q (.ref x) H2) E := by
  obtain ⟨r2, e2⟩ := r1.side (o := .own x) hd
  have hx2 : upd H1 dx (.own x) x = none := by rw [upd_ne (Ne.symm hne)]; exact hx
  obtain ⟨r3, e3⟩ := r2.newO (u := .ins (nm c) dx []) (ob := .ins c []) hx2 ⟨dx, [], rfl, rfl⟩
  have hi : (ι1.add x).st[S1.length]? = some x := r1.last
  refine ⟨_, _, .ref S1.length :: ds, r3, ⟨_, _, rfl, ⟨x, hi, rfl⟩, p1.mono r1 (e2.trans e3)⟩, ?_⟩
  unfold mkR at w
  cases q : C gf (.ref S1.length :: ds) (S1 ++ [.ins c []]) with
  | ok d S2 =>
    rw [q] at w
    intro v ι' H' r' e' hv
    cases d <;> first
      | exact False.elim w
      | skip
    cases hv
    exact ⟨rfl, w (.ref x) ι' H' r' ((e2.trans e3).trans e') ⟨x, e'.at_ hi, rfl⟩⟩
  | bad => rw [q] at w; exact w
  | exc y S2 =>
    rw [q] at w
    exact fun cls d ι' H' r' e' xr => w cls d ι' H' r' ((e2.trans e3).trans e') xr
theorem se_makes (g : Gd X nm nms C G fl fx) {m c gf : Nat} {es : List Expr} {ms : List Ex} {p pos : Pos} (hf : fl.mkc c gf = true) (hg : Gl X (nms c)) (hdb : (nms c == ("__debug__" : Str)) = false) (ha : PA X es (tA X.K nm fx (evs C G ms))) (hnil : es = [] → ms = []) (hs : ∀ e r, es = e :: r → starEach (e :: r) X.env = (false, eval e X.env) :: starEach r X.env ∧ (backTo pos (starEach r X.env)).any (·.1) = false) :
    PE X (.Call (.Name (nms c) p) es [] pos) (tE X.K nm fx (ev C G (.makes m c gf ms))) := by
  obtain ⟨a, fd, ps, k, hm, hmk, F, hr, hb⟩ := g.mkc c gf hf
  cases es with
  | nil =>
    obtain rfl := hnil rfl
    refine PEimp (pe_make0 hmk F hr hg hm hb .nil g.pass hdb) fun σ H Q h => ?_
    obtain ⟨ι, S, ρ, st, w⟩ := h
    simp only [ev, evs, R.bind_ok] at w
    intro x dx hx hd hne
    show spF X.K nm nms (C gf) (.ref x :: ([] ++ [])) _ _ _
    obtain ⟨ι0, S0, zs, q1, q2, q3⟩ := scp_go (ds := []) (vs := []) st.ext st.rel .refl rfl w
    exact mk_go (vs := []) q1 q2 hx hd hne q3
  | cons e r =>
    obtain ⟨s1, s2⟩ := hs e r rfl
    refine PEimp (pe_make hmk F hr hg hm hb .nil g.pass ha hdb s1 s2) fun σ H Q h => ?_
    obtain ⟨ι, S, ρ, st, w⟩ := h
    simp only [ev] at w
    refine ⟨ι, S, ρ, st, w.bind.mono fun ds S1 w1 vs ι1 H1 r1 e1 p1 => ?_⟩
    intro x dx hx hd hne
    show spF X.K nm nms (C gf) (.ref x :: (vs ++ [])) _ _ _
    rw [List.append_nil]
    obtain ⟨ι0, S0, zs, q1, q2, q3⟩ := scp_go st.ext r1 e1 p1 w1
    exact mk_go q1 q2 hx hd hne q3
end
end Pl

set_option maxHeartbeats 4000000
/-! A text turned about, its signs as a list; min, max; places; defs as values. -/
namespace Pl
open PySem L2 PyProof.Rows
section
variable {X : Cx}
theorem rev_picked (x : Str) : Txt.sliceBy x none none ((-1 : Int), u) = ⟨x.cps.toList.reverse.toArray⟩ := by
  unfold Txt.sliceBy
  have h : slicePicked x none none (some ((-1 : Int), u)) = (List.range x.cps.size).reverse := by
    show sliceRange ((x.cps.size : Int) - 1) (-1) (-1) = _
    rw [PySem.W.krv_sliceRange, PySem.W.krv_range]
  rw [h]
  have h1 : ((((some ((-1 : Int), u)).map (·.1)).getD 1 == 1 && ((List.range x.cps.size).reverse.length == x.length)) = true) = False := by
    simp
  rw [if_neg (by rw [h1]; exact id), List.filterMap_reverse, PySem.W.krv_all]
def tRevS (K : PySem.W.Frag) (te : TE) : TE := fun σ H Q => te σ H fun x H1 => (∃ y : Str, x = .str y ∧ y.length ≤ sizeLine ∧ Q (.str ⟨y.cps.toList.reverse.toArray⟩) H1) ∨ (∃ a xs, x = .ref a ∧ SqT K H1 a xs ∧ ∀ p, H1 p = none → Q (.ref p) (upd H1 p (.tup xs.reverse)))
theorem pe_revS {e : Expr} {te : TE} {k : Nat} {p1 p2 p3 pos : Pos} (he : PE X e te) : PE X (.Subscript e (.Slice none none (some (.UnaryOp .USub (.Constant (.int 1) k p1) p2)) p3) pos) (tRevS X.K te) := by
  refine ⟨fun pins s σ H Q I h => ?_⟩
  refine Subscript_ (thn (he.run pins s σ H _ I h) fun v s1 ⟨x, H1, I1, r1, q1⟩ => ?_)
  rcases q1 with ⟨y, ex, hx, q⟩ | ⟨a, xs, ex, hx, q⟩
  rotate_left
  · subst ex
    cases r1
    have hst : PO X (some (.UnaryOp .USub (.Constant (.int 1) k p1) p2)) (tPart (tUn (rU fun i => .int (-i)) (tC (.int 1)))) := po_some (pe_un un_neg pe_int)
    refine wpAny_Slice (thn (po_none.run pins s1 σ H1 (fun o H2 => o = none ∧ H2 = H1) I1 ⟨rfl, rfl⟩) fun vl s2 ⟨l, H2, I2, pl, el, e2⟩ => ?_)
    subst el e2
    refine thn (po_none.run pins s2 σ H2 (fun o H3 => o = none ∧ H3 = H2) I2 ⟨rfl, rfl⟩) fun vu s3 ⟨u, H3, I3, pu, eu, e3⟩ => ?_
    subst eu e3
    refine thn (hst.run pins s3 σ H3 (fun o H4 => o = some (-1) ∧ H4 = H3) I3 ⟨1, rfl, -1, rfl, rfl, rfl⟩) fun vs s4 ⟨o, H4, I4, ps, eo, e4⟩ => ?_
    subst eo e4
    cases pl
    cases pu
    obtain ⟨tk, rfl⟩ : ∃ t, vs = .int (-1) t := by cases ps; exact ⟨_, rfl⟩
    have I5 : L2.Inv X pins σ H4 { s4 with heap := s4.heap.push { cls := .type "slice", data := .fields #[.none, .none, .int (-1) tk] } } := I4.kept (t' := s4.toks) fun b ob q => Heap.get?_push_of_some _ q
    obtain ⟨its, r, ht, hz⟩ := I5.tuple hx
    have hlen := r.length
    show wpAny (model X.prog X.w) X.A (subscriptTail e (.Slice none none (some (.UnaryOp .USub (.Constant (.int 1) k p1) p2)) p3) (.ref a) (.ref s4.heap.objs.size)) (EP X pins σ Q) X.xe { s4 with heap := s4.heap.push { cls := .type "slice", data := .fields #[.none, .none, .int (-1) tk] } }
    refine tail_any (ops := [.ref a, .ref s4.heap.objs.size]) ht.typeIs (PyProof.Rows.slot_tuple_getitem.lookup) ?_ (by with_unfolding_all rfl)
    refine getItem_tuple_rev ht (Heap.IsSliceOf.new _ .none .none (.int (-1) tk)) ?_ (by rw [List.size_toArray]; omega)
    refine ⟨.ref _, _, I5.laid (t' := s4.toks) (o := .tup xs.reverse) (fun b ob q => Heap.get?_push_of_some _ q) (Nat.le_refl _) ?_, rfl, q _ (I5.hok.fresh (Nat.le_refl _))⟩
    exact ⟨by rw [List.length_reverse]; exact hz, _, r.reverse, IsTup.new _ _⟩
  subst ex
  obtain ⟨t, rfl⟩ := r1
  have hst : PO X (some (.UnaryOp .USub (.Constant (.int 1) k p1) p2)) (tPart (tUn (rU fun i => .int (-i)) (tC (.int 1)))) := po_some (pe_un un_neg pe_int)
  refine wpAny_Slice (thn (po_none.run pins s1 σ H1 (fun o H2 => o = none ∧ H2 = H1) I1 ⟨rfl, rfl⟩) fun vl s2 ⟨l, H2, I2, pl, el, e2⟩ => ?_)
  subst el e2
  refine thn (po_none.run pins s2 σ H2 (fun o H3 => o = none ∧ H3 = H2) I2 ⟨rfl, rfl⟩) fun vu s3 ⟨u, H3, I3, pu, eu, e3⟩ => ?_
  subst eu e3
  refine thn (hst.run pins s3 σ H3 (fun o H4 => o = some (-1) ∧ H4 = H3) I3 ⟨1, rfl, -1, rfl, rfl, rfl⟩) fun vs s4 ⟨o, H4, I4, ps, eo, e4⟩ => ?_
  subst eo e4
  cases pl
  cases pu
  obtain ⟨tk, rfl⟩ : ∃ t, vs = .int (-1) t := by cases ps; exact ⟨_, rfl⟩
  have I5 : L2.Inv X pins σ H4 { s4 with heap := s4.heap.push { cls := .type "slice", data := .fields #[.none, .none, .int (-1) tk] } } := I4.kept (t' := s4.toks) fun b ob q => Heap.get?_push_of_some _ q
  show wpAny (model X.prog X.w) X.A (subscriptTail e (.Slice none none (some (.UnaryOp .USub (.Constant (.int 1) k p1) p2)) p3) (.str y t) (.ref s4.heap.objs.size)) (EP X pins σ Q) X.xe { s4 with heap := s4.heap.push { cls := .type "slice", data := .fields #[.none, .none, .int (-1) tk] } }
  refine tail_any (ops := [.ref s4.heap.objs.size, .str y t]) (typeIs_str _ _ _) (PySem.F.slot_str_getitem.lookup) ?_ (by with_unfolding_all rfl)
  refine wpAny_getItem_str_slice (l := none) (u := none) (st := some (-1, tk)) ⟨_, Heap.get?_push_size _ rfl, rfl, rfl⟩ rfl
    (post_val_or_str ⟨Nat.le_trans (Txt.sliceBy_le y _ _ (-1, tk) (show (-1 : Int) ≠ 0 by decide)) hx, fun t' c => ?_⟩)
  show EP X pins σ Q (.str (Txt.sliceBy y none none (-1, tk)) t') _
  rw [rev_picked]
  exact ⟨.str ⟨y.cps.toList.reverse.toArray⟩, H4, I5.tok _, ⟨_, rfl⟩, q⟩
theorem call_list_strH (hcalm : X.calm = true) : CallR X (.type "list") (fun xs H Q => ∃ y : Str, xs = [.str y] ∧ y.length ≤ sizeLine ∧ ∀ l, H l = none → Q (.ref l) (upd H l (.lst (y.cps.toList.map fun c => V.str ⟨#[c]⟩)))) := by
  intro pins s σ H xs us Q I r h
  obtain ⟨y, rfl, hz, q⟩ := h
  obtain ⟨u, rfl, t, rfl⟩ := vals1 r
  refine call_list_str (I.ok.hd hcalm) y t (fun h' tk acc' c' kp e hit => ?_) hz
  refine ⟨.ref s.heap.objs.size, _, I.laid (t' := tk) kp (Nat.le_refl _) (show ObjOk X.prog X.w _ h' _ (.lst _) from ⟨by rw [List.length_map]; exact hz, acc'.toList, c', ?_, by simpa using e⟩), rfl, q _ (I.hok.fresh (Nat.le_refl _))⟩
  obtain ⟨hs, hv⟩ := hit
  have key : ∀ (cs : List Nat) (vs : List Value), vs.length = cs.length → (∀ (j : Nat) (v : Value), vs[j]? = some v → ∃ c u, cs[j]? = some c ∧ v = .str ⟨#[c]⟩ u) → Vals (cs.map fun c => V.str ⟨#[c]⟩) vs := by
    intro cs
    induction cs with
    | nil =>
      intro vs hl _
      cases vs with
      | nil => exact .nil
      | cons v vs => simp at hl
    | cons c cs ih =>
      intro vs hl hj
      cases vs with
      | nil => simp at hl
      | cons v vs =>
        obtain ⟨c', u, e1, rfl⟩ := hj 0 v rfl
        cases e1
        exact .cons ⟨u, rfl⟩ (ih vs (by simpa using hl) fun j v hv => by simpa using hj (j + 1) v (by simpa using hv))
  refine key y.cps.toList acc'.toList (by simpa using hs) fun j v hj => ?_
  obtain ⟨c, u, e1, e2⟩ := hv j v (by simpa using hj)
  exact ⟨c, u, by simpa using e1, e2⟩
end
section
variable {X : Cx} {nm : Nat → Addr} {nms : Nat → Str} {C : Nat → List D → Sto → R D} {G : Nat → Option D} {fl : Fl} {fx : Fx} {ι : Io} {S : Sto} {H : Hp} {K : PySem.W.Frag}
theorem se_revs {e : Expr} {m : Ex} {k : Nat} {p1 p2 p3 pos : Pos} (h : PE X e (tE X.K nm fx (ev C G m))) : PE X (.Subscript e (.Slice none none (some (.UnaryOp .USub (.Constant (.int 1) k p1) p2)) p3) pos) (tE X.K nm fx (ev C G (.revs m))) := by
  refine PEimp (pe_revS h) fun σ H Q h => ?_
  obtain ⟨ι, S, ρ, st, w⟩ := h
  simp only [ev] at w
  refine ⟨ι, S, ρ, st, w.bind.mono fun d S1 w1 v ι1 H1 r1 e1 p1 => ?_⟩
  cases d <;> first
    | exact False.elim w1
    | skip
  case str x =>
    cases p1
    simp only at w1
    split at w1
    · rename_i hl
      refine .inl ⟨strOf x, rfl, by rw [strOf_len]; exact lim_le hl, w1 _ ι1 H1 r1 e1 ?_⟩
      show _ = V.str ⟨x.reverse.toArray⟩
      simp [strOf]
    · exact w1.elim
  case tup ds =>
    obtain ⟨a, xs, rfl, ha, hxs⟩ := p1
    refine .inr ⟨a, xs, rfl, ha, fun p hp => ?_⟩
    obtain ⟨r2, e2⟩ := r1.side (o := .tup xs.reverse) hp
    exact w1 _ ι1 _ r2 (e1.trans e2) ⟨p, _, rfl, SqT.of upd_same, hxs.rev.mono r1 e2⟩
theorem chars_rep : ∀ x : List Nat, Reps K nm ι H (x.map fun c => D.str [c]) (x.map fun c => V.str ⟨#[c]⟩)
  | [] => rfl
  | c :: x => ⟨_, _, rfl, rfl, chars_rep x⟩
theorem sf_chars (g : Gd X nm nms C G fl fx) {e : Expr} {m : Ex} {p pos : Pos} (h : PE X e (tE X.K nm fx (ev C G m))) (hg : Gl X "list") (he : starEach [e] X.env = (false, eval e X.env) :: starEach [] X.env) : PE X (.Call (.Name "list" p) [e] [] pos) (tF X.K nm fx (evF C G (.chars m))) := by
  refine PEimp (pe_callTy (call_list_strH g.calm) hg (g.blt _ (by simp [blts])) (by decide +kernel) (pa_one h he) (by decide) (by decide) he) fun σ H Q h => ?_
  obtain ⟨ι, S, ρ, st, w⟩ := h
  simp only [evF] at w
  refine ⟨ι, S, ρ, st, w.bind.mono fun d S1 w1 v ι1 H1 r1 e1 p1 => ?_⟩
  cases d <;> first
    | exact False.elim w1
    | skip
  case str x =>
    cases p1
    simp only at w1
    split at w1
    · rename_i hl
      refine ⟨strOf x, rfl, by rw [strOf_len]; exact lim_le hl, fun l hn => ?_⟩
      obtain ⟨r2, e2⟩ := r1.side (o := .lst ((strOf x).cps.toList.map fun c => V.str ⟨#[c]⟩)) hn
      refine w1 l _ ι1 _ r2 (e1.trans e2) (none_of e1 hn (r1.free hn)) upd_same (r1.free hn) ?_
      have : (strOf x).cps.toList = x := by simp [strOf]
      rw [this]
      exact chars_rep x
    · exact w1.elim
theorem se_mm (g : Gd X nm nms C G fl fx) {mx : Bool} {a b : Expr} {ma mb : Ex} {p pos : Pos} (ha : PE X a (tE X.K nm fx (ev C G ma))) (hb : PE X b (tE X.K nm fx (ev C G mb))) (hg : Gl X (if mx then "max" else "min")) (he : starEach [a, b] X.env = (false, eval a X.env) :: starEach [b] X.env) (he2 : starEach [b] X.env = (false, eval b X.env) :: starEach [] X.env) :
    PE X (.Call (.Name (if mx then "max" else "min") p) [a, b] [] pos) (tE X.K nm fx (ev C G (.mm mx ma mb))) := by
  cases mx
  · refine PEimp (pe_callB (call_min2 g.calm) hg (g.blt _ (by simp [blts])) (by decide +kernel) (pa_cons ha (pa_cons hb pa_nil he2) he) (by decide) (by decide) he (by rw [he2] <;> rfl)) fun σ H Q h => ?_
    obtain ⟨ι, S, ρ, st, w⟩ := h
    simp only [ev] at w
    refine ⟨ι, S, ρ, st, w.bind.mono fun d S1 w1 v ι1 H1 r1 e1 p1 => ?_⟩
    refine ⟨ι1, S1, ρ, st.on r1 e1, w1.bind.mono fun d2 S2 w2 v2 ι2 H2 r2 e2 p2 => ?_⟩
    cases d <;> cases d2 <;> first
      | exact False.elim w2
      | skip
    cases p1; cases p2
    exact ⟨_, _, rfl, w2 _ ι2 H2 r2 (e1.trans e2) rfl⟩
  · refine PEimp (pe_callB (call_max2 g.calm) hg (g.blt _ (by simp [blts])) (by decide +kernel) (pa_cons ha (pa_cons hb pa_nil he2) he) (by decide) (by decide) he (by rw [he2] <;> rfl)) fun σ H Q h => ?_
    obtain ⟨ι, S, ρ, st, w⟩ := h
    simp only [ev] at w
    refine ⟨ι, S, ρ, st, w.bind.mono fun d S1 w1 v ι1 H1 r1 e1 p1 => ?_⟩
    refine ⟨ι1, S1, ρ, st.on r1 e1, w1.bind.mono fun d2 S2 w2 v2 ι2 H2 r2 e2 p2 => ?_⟩
    cases d <;> cases d2 <;> first
      | exact False.elim w2
      | skip
    cases p1; cases p2
    exact ⟨_, _, rfl, w2 _ ι2 H2 r2 (e1.trans e2) rfl⟩
theorem ints_rep {ι1 : Io} {H1 : Hp} : ∀ {ds : List D} {bs : List Int} {xs : List V}, intsD ds = some bs → Reps X.K nm ι1 H1 ds xs → xs = bs.map V.int
  | [], bs, xs, h, r => by cases h; cases r; rfl
  | d :: ds, bs, xs, h, r => by
    obtain ⟨v, w, rfl, h1, h2⟩ := r
    cases d <;> first
      | (cases h; done)
      | skip
    case int b =>
      simp only [intsD, Option.map_eq_some_iff] at h
      obtain ⟨cs, h3, rfl⟩ := h
      cases h1
      rw [ints_rep h3 h2]
      rfl
theorem fold_min : ∀ (xs : List Int) (x m : Int), m ∈ x :: xs → (∀ y, y ∈ x :: xs → m ≤ y) → xs.foldl min x = m
  | [], x, m, h, _ => by
    rw [List.mem_singleton.mp h]
    rfl
  | y :: xs, x, m, h, g => by
    refine fold_min xs (min x y) m ?_ fun z hz => ?_
    · rcases List.mem_cons.mp h with rfl | h
      · have := g y (by simp)
        rw [Int.min_eq_left this]
        exact List.mem_cons_self
      · rcases List.mem_cons.mp h with rfl | h
        · have := g x (by simp)
          rw [Int.min_eq_right this]
          exact List.mem_cons_self
        · exact List.mem_cons_of_mem _ h
    · rcases List.mem_cons.mp hz with rfl | hz
      · have h1 := g x (by simp)
        have h2 := g y (by simp)
        omega
      · exact g z (by simp [hz])
theorem fold_max : ∀ (xs : List Int) (x m : Int), m ∈ x :: xs → (∀ y, y ∈ x :: xs → y ≤ m) → xs.foldl max x = m
  | [], x, m, h, _ => by
    rw [List.mem_singleton.mp h]
    rfl
  | y :: xs, x, m, h, g => by
    refine fold_max xs (max x y) m ?_ fun z hz => ?_
    · rcases List.mem_cons.mp h with rfl | h
      · have := g y (by simp)
        rw [Int.max_eq_left this]
        exact List.mem_cons_self
      · rcases List.mem_cons.mp h with rfl | h
        · have := g x (by simp)
          rw [Int.max_eq_right this]
          exact List.mem_cons_self
        · exact List.mem_cons_of_mem _ h
    · rcases List.mem_cons.mp hz with rfl | hz
      · have h1 := g x (by simp)
        have h2 := g y (by simp)
        omega
      · exact g z (by simp [hz])
def agN : Ag → Str
  | .mn => "min"
  | .mx => "max"
  | .sm => "sum"
theorem ite_some' {α : Type} {b : Bool} {o : Option α} {x : α} (h : (if b = true then none else o) = some x) : b = false ∧ o = some x := by
  cases b <;> simp_all
theorem se_agg (g : Gd X nm nms C G fl fx) {kk : Ag} {e : Expr} {m : Sq} {p pos : Pos} (h : PE X e (tQ X.K nm fx (evQ C G m))) (hg : Gl X (agN kk)) (he : starEach [e] X.env = (false, eval e X.env) :: starEach [] X.env) : PE X (.Call (.Name (agN kk) p) [e] [] pos) (tE X.K nm fx (ev C G (.agg kk m))) := by
  cases kk
  · have hg : Gl X "min" := hg
    show PE X (.Call (.Name "min" p) [e] [] pos) _
    refine PEimp (pe_callB (cr_min g.calm) hg (g.blt _ (by simp [blts])) (by decide +kernel) (pa_one h he) (by decide) (by decide) he) fun σ H Q h => ?_
    obtain ⟨ι, S, ρ, st, w⟩ := h
    simp only [ev] at w
    refine ⟨ι, S, ρ, st, w.bind.mono fun sv S1 w1 a ι1 H1 r1 e1 p1 => ?_⟩
    obtain ⟨xs, h1, h2, h3, h4⟩ := sq_at r1 p1
    split at w1 <;> first | exact False.elim w1 | skip
    rename_i ns hns
    obtain ⟨ht, hns⟩ := ite_some' hns
    split at w1 <;> first | exact False.elim w1 | skip
    rename_i i hi
    rw [ints_rep hns h4] at h2
    cases ns with
    | nil => cases hi
    | cons n ns =>
      refine ⟨a, n :: ns, rfl, h2 ht, by simp, fun mm hm hl => ?_⟩
      have := fold_min ns n mm hm hl
      cases hi
      exact w1 _ ι1 H1 r1 e1 (congrArg V.int this.symm)
  · have hg : Gl X "max" := hg
    show PE X (.Call (.Name "max" p) [e] [] pos) _
    refine PEimp (pe_callB (cr_max g.calm) hg (g.blt _ (by simp [blts])) (by decide +kernel) (pa_one h he) (by decide) (by decide) he) fun σ H Q h => ?_
    obtain ⟨ι, S, ρ, st, w⟩ := h
    simp only [ev] at w
    refine ⟨ι, S, ρ, st, w.bind.mono fun sv S1 w1 a ι1 H1 r1 e1 p1 => ?_⟩
    obtain ⟨xs, h1, h2, h3, h4⟩ := sq_at r1 p1
    split at w1 <;> first | exact False.elim w1 | skip
    rename_i ns hns
    obtain ⟨ht, hns⟩ := ite_some' hns
    split at w1 <;> first | exact False.elim w1 | skip
    rename_i i hi
    rw [ints_rep hns h4] at h2
    cases ns with
    | nil => cases hi
    | cons n ns =>
      refine ⟨a, n :: ns, rfl, h2 ht, by simp, fun mm hm hl => ?_⟩
      have := fold_max ns n mm hm hl
      cases hi
      exact w1 _ ι1 H1 r1 e1 (congrArg V.int this.symm)
  · have hg : Gl X "sum" := hg
    show PE X (.Call (.Name "sum" p) [e] [] pos) _
    refine PEimp (pe_callB (cr_sum g.calm) hg (g.blt _ (by simp [blts])) (by decide +kernel) (pa_one h he) (by decide) (by decide) he) fun σ H Q h => ?_
    obtain ⟨ι, S, ρ, st, w⟩ := h
    simp only [ev] at w
    refine ⟨ι, S, ρ, st, w.bind.mono fun sv S1 w1 a ι1 H1 r1 e1 p1 => ?_⟩
    obtain ⟨xs, h1, h2, h3, h4⟩ := sq_at r1 p1
    split at w1 <;> first | exact False.elim w1 | skip
    rename_i ns hns
    obtain ⟨ht, hns⟩ := ite_some' hns
    split at w1 <;> first | exact False.elim w1 | skip
    rename_i i hi
    rw [ints_rep hns h4] at h2
    cases hi
    exact ⟨a, ns, rfl, h2 ht, w1 _ ι1 H1 r1 e1 rfl⟩
theorem lst_ty (r : Rel K nm ι S H) {d : D} {v : V} (h : isLst d S = true) (p : Rep K nm ι H d v) : ∃ a, v = .ref a ∧ ∃ xs, SqL K H a xs := by
  cases d <;> first
    | (cases h; done)
    | skip
  case fro ds =>
    obtain ⟨a, xs, rfl, h1, _⟩ := p
    exact ⟨a, rfl, xs, h1.l⟩
  case ref n =>
    simp only [isLst] at h
    split at h
    · rename_i ds hds
      obtain ⟨a, xs, rfl, _, h1, _⟩ := r.ref hds p
      exact ⟨a, rfl, xs, SqL.of h1⟩
    · cases h
theorem se_lidx (g : Gd X nm nms C G fl fx) {o e : Expr} {mo m : Ex} {apos pos : Pos} (ho : PE X o (tE X.K nm fx (ev C G mo))) (h : PE X e (tE X.K nm fx (ev C G m))) (hs : starEach [e] X.env = (false, eval e X.env) :: starEach [] X.env) (hbase : attributeBase o "index" X.env (eval o X.env) = eval o X.env) (hline : (apos.endLine == pos.line) = true) :
    PE X (.Call (.Attribute o "index" apos) [e] [] pos) (tE X.K nm fx (ev C G (.lidx mo m))) := by
  refine PEimp (pe_bm PySem.F.plainAttrs_list PySem.F.slot_list_index PySem.F.type_list_index (mt_indexD (by have := g.un; omega)) ho (pa_cons h pa_nil hs) hbase (by rw [hs] <;> rfl) hline hs rfl) fun σ H Q h => ?_
  obtain ⟨ι, S, ρ, st, w⟩ := h
  simp only [ev] at w
  refine ⟨ι, S, ρ, st, w.bind.mono fun d S1 w1 v ι1 H1 r1 e1 p1 => ?_⟩
  split at w1
  case isFalse => exact w1.elim
  rename_i hl
  obtain ⟨a, rfl, xs, hx⟩ := lst_ty r1 hl p1
  refine ⟨?_, ι1, S1, ρ, st.on r1 e1, w1.bind.mono fun d2 S2 w2 v2 ι2 H2 r2 e2 p2 => ?_⟩
  · exact .inl ⟨rfl, xs, hx⟩
  · unfold lidxV at w2
    split at w2
    case h_2 => exact w2.elim
    rename_i ps q hp hq
    split at w2
    case isFalse => exact w2.elim
    rename_i hsh
    obtain ⟨s1, s2⟩ := Bool.and_eq_true_iff.mp hsh
    split at w2
    case h_2 => exact w2.elim
    rename_i j hj
    obtain ⟨hjl, h1, h2⟩ := List.findIdx?_eq_some_iff_getElem.mp hj
    refine ⟨a, v2, q, ps, j, ps[j], rfl, rfl, pd_Dp r2 hp (p1.mono r1 e2), pd_Dp r2 hq p2, s1, s2, List.getElem?_eq_getElem hjl, h1, fun m z' hm hz => ?_, w2 _ ι2 H2 r2 (e1.trans e2) rfl⟩
    have hml : m < ps.length := by omega
    rw [List.getElem?_eq_getElem hml] at hz
    cases hz
    simpa using h2 m hm
theorem pe_callV {fe e : Expr} {es : List Expr} {x : Str} {p pos : Pos} {tf : TE} {t : TA} {R : Addr → List V → Hp → VK → Prop} (hf : PE X (.Name x p) tf) (ha : PA X (e :: es) t)
    (hR : ∀ a H Q vs, R a vs H Q → ∃ k fd ps sp E, FnOk X.prog X.w X.K X.mg X.base (L2.CX X.prog X.w) k a fd ps sp ∧ Room k X.A ∧ Binds X.K fd ps [] ∧ Passes (L2.CX X.prog X.w) X E ∧ sp vs H Q E)
    (he : starEach (e :: es) X.env = (false, eval e X.env) :: starEach es X.env) (hpl : (backTo pos (starEach es X.env)).any (·.1) = false) :
    PE X (.Call (.Name x p) (e :: es) [] pos) (fun σ H Q => tf σ H fun y H1 => ∃ a, y = V.ref a ∧ PySem.W.keepIn X.K (.ref a) = true ∧ t σ H1 fun vs H2 => R a vs H2 Q) := by
  refine ⟨fun pins s σ H Q I h => ?_⟩
  refine wpAny_Call_Name_kw (thn (hf.run pins s σ H _ I h) fun u s1 ⟨y, H1, I1, ry, a, ey, hk, q⟩ => ?_)
  subst ey
  obtain rfl : u = Value.ref a := ry
  refine PySem.W.callWith_K (h₀ := X.base) I1.ok.mod.kin hk (thn (ha.run pos pins s1 σ H1 _ I1 q) fun us s2 ⟨vs, H2, I2, r, q2⟩ => ⟨I2.kIn, ?_⟩) he hpl
  obtain ⟨k, fd, ps, sp, E, F, hr, hb, hx, q3⟩ := hR a H2 Q vs q2
  exact run_fn F hr hb .nil hx I2 r (by rw [List.append_nil]; exact q3)
theorem se_callv (g : Gd X nm nms C G fl fx) {fs : List Nat} {m : Nat} {b : Bool} {x : Str} {e : Expr} {es : List Expr} {mf : Ex} {ms : List Ex} {p pos : Pos} (hf : fs.all fl.on = true) (ho : PE X (.Name x p) (tE X.K nm fx (ev C G mf))) (ha : PA X (e :: es) (tA X.K nm fx (evs C G ms)))
    (he : starEach (e :: es) X.env = (false, eval e X.env) :: starEach es X.env) (hpl : (backTo pos (starEach es X.env)).any (·.1) = false) : PE X (.Call (.Name x p) (e :: es) [] pos) (tE X.K nm fx (ev C G (.callv fs m b mf ms))) := by
  refine PEimp (pe_callV (fe := e) (R := fun a vs H Q => ∃ i, fs.contains i = true ∧ a = nm i ∧ spF X.K nm nms (C i) vs H Q (Ew X.K nm nms fx)) ho ha (fun a H Q vs hr => ?_) he hpl) fun σ H Q h => ?_
  · obtain ⟨i, hi, rfl, hs⟩ := hr
    have on : fl.on i = true := List.all_eq_true.mp hf i (by simpa using hi)
    obtain ⟨a, fd, ps, k, hm, hk, F, hr, hbd, _, ea⟩ := g.fns i on
    subst ea
    exact ⟨k, fd, ps, _, _, F, hr, hbd, g.pass, hs⟩
  · obtain ⟨ι, S, ρ, st, w⟩ := h
    simp only [ev] at w
    refine ⟨ι, S, ρ, st, w.bind.mono fun d S1 w1 v ι1 H1 r1 e1 p1 => ?_⟩
    cases d <;> first
      | exact False.elim w1
      | skip
    case gl i =>
      simp only at w1
      split at w1
      case isFalse => exact w1.elim
      rename_i hi
      have on : fl.on i = true := List.all_eq_true.mp hf i (by simpa using hi)
      obtain ⟨a, fd, ps, k, hm, hk, F, hr, hbd, _, ea⟩ := g.fns i on
      subst ea
      cases p1
      refine ⟨nm i, rfl, hk, ι1, S1, ρ, st.on r1 e1, w1.bind.mono fun ds S2 w2 vs ι2 H2 r2 e2 p2 => ?_⟩
      exact ⟨i, hi, rfl, scp_sp st.ext r2 (e1.trans e2) p2 w2⟩
end
end Pl

set_option maxHeartbeats 4000000
set_option maxRecDepth 100000
/-! sorted(set(texts)). -/
namespace Pl
open PySem L2 PyProof.Rows PySem.Froz
def keyS (e : Int × Value) : Str := match e.2 with | .str k _ => k | _ => ⟨#[]⟩
def addS (l : List Str) (x : Str) : List Str := if x ∈ l then l else x :: l
theorem addS_nodup {l : List Str} (h : l.Nodup) (x : Str) : (addS l x).Nodup := by
  unfold addS
  split
  · exact h
  · rename_i hx
    exact List.nodup_cons.mpr ⟨hx, h⟩
theorem addS_len (l : List Str) (x : Str) : (addS l x).length ≤ l.length + 1 := by
  unfold addS
  split <;> simp
/-- what stands in the table of a set of the texts l -/
structure TbS (w : World) (D : SD) (l : List Str) : Prop where
  good : ∀ e ∈ D.1.toList, ∃ k u, e.2 = Value.str k u ∧ e.1 = hashStr w k
  keys : (D.1.toList.map keyS).Perm l
  nd : l.Nodup
  fit : D.2.2.fits D.1.size = true
  ris : Ris D.2.2.place.toList
  led : w.params.followText "set-order" = true ∨ D.2.2.led = true
section
variable {P : Program} {w : World} {A : Around} {E : Value → Shared → Prop} {s : Shared}
theorem TbS.tx {D : SD} {l : List Str} (T : TbS w D l) : TxOk P w D l where
  el := fun e he => by
    obtain ⟨k, u, h1, h2⟩ := T.good e he
    exact ⟨⟨k, by rw [h1]; exact is_str k u, h2⟩, by rw [h1]; rfl⟩
  mem := fun k => by
    rw [← T.keys.mem_iff, List.mem_map]
    constructor
    · rintro ⟨e, he, q⟩
      obtain ⟨k', u, h1, h2⟩ := T.good e he
      refine ⟨e, he, ?_⟩
      have : keyS e = k' := by unfold keyS; rw [h1]
      rw [h1, ← q, this]
      exact is_str k' u
    · rintro ⟨e, he, q⟩
      obtain ⟨k', u, h1, h2⟩ := T.good e he
      refine ⟨e, he, ?_⟩
      have e1 : keyS e = k' := by unfold keyS; rw [h1]
      rw [e1]
      rw [h1] at q
      exact (strKind P w).inj (.str k' u) k' k (is_str k' u) q
  sz := by
    have := T.keys.length_eq
    rw [List.length_map, Array.length_toList] at this
    exact this
  fit := T.fit
theorem tailTx_perm (ep : Nat) (es : Array (Int × Value)) (t : SetTable) (b : Bool) : (tailTx ep es t b).1.toList.Perm es.toList := by
  unfold tailTx
  split
  · exact relayAll_perm _ _ _
  · exact List.Perm.refl _
theorem tailTx_ris {ep : Nat} {es : Array (Int × Value)} {t : SetTable} {b : Bool} (r : Ris t.place.toList) : Ris (tailTx ep es t b).2.2.place.toList := by
  unfold tailTx
  split
  · exact relayAll_ris _ _ _
  · exact r
theorem tailTx_led {ep : Nat} {es : Array (Int × Value)} {t : SetTable} {b : Bool} (r : t.led = true) : (tailTx ep es t b).2.2.led = true := by
  unfold tailTx
  split
  · exact (relayAll_led _ _ _).trans r
  · exact r
theorem off_ris {t : SetTable} (r : Ris t.place.toList) : Ris (if t.plain = true then { t with plain := false } else t).place.toList := by
  split <;> exact r
theorem off_led {t : SetTable} (r : t.led = true) : (if t.plain = true then { t with plain := false } else t).led = true := by
  split <;> exact r
theorem addTx_perm (h : Int) (v : Value) (D : SD) : (addTx h v D).1.toList.Perm ((h, v) :: D.1.toList) := by
  obtain ⟨es, ep, t⟩ := D
  have p1 := layNew_perm t es h v
  rw [Array.toList_push] at p1
  exact (tailTx_perm _ _ _ _).trans (p1.trans (List.perm_append_singleton _ _))
theorem addTx_ris {h : Int} {v : Value} {D : SD} (r : Ris D.2.2.place.toList) : Ris (addTx h v D).2.2.place.toList := by
  obtain ⟨es, ep, t⟩ := D
  exact tailTx_ris (off_ris (layNew_ris t es h v r))
theorem addTx_led {h : Int} {v : Value} {D : SD} (r : D.2.2.led = true) : (addTx h v D).2.2.led = true := by
  obtain ⟨es, ep, t⟩ := D
  exact tailTx_led (off_led ((layNew_led t es h v).trans r))
theorem TbS.add {D : SD} {l : List Str} (T : TbS w D l) {k : Str} (u : Tok) (hk : k ∉ l) : TbS w (addTx (hashStr w k) (.str k u) D) (k :: l) where
  good := fun e he => by
    rcases List.mem_cons.mp ((addTx_perm _ _ D).mem_iff.mp he) with z | z
    · rw [z]; exact ⟨k, u, rfl, rfl⟩
    · exact T.good e z
  keys := by
    have p := (addTx_perm (hashStr w k) (.str k u) D).map keyS
    rw [List.map_cons] at p
    exact p.trans (T.keys.cons _)
  nd := List.nodup_cons.mpr ⟨hk, T.nd⟩
  fit := (add_ok (P := default) u T.tx).fit
  ris := addTx_ris T.ris
  led := T.led.imp id addTx_led
theorem had_x {a : Addr} {D : SD} {l : List Str} {k : Str} {u : Tok} {Q : Bool → Shared → Prop} (ho : s.heap.get? a = some (sObj "set" D)) (T : TbS w D l) (hk : k ∈ l) (hb : l.length < scanBound)
    (h : Q false s) : wpAny (model P w) A (setAddHashed a (.str k u) (hashStr w k)) Q E s := by
  have F : TxOk P w D l := T.tx
  obtain ⟨es, ep, t⟩ := D
  have hd : (sObj "set" (es, ep, t)).data = .set es ep t := rfl
  have hz : es.size = l.length := F.sz
  have hel : ElemsOf (strKind P w) es.toList := F.el
  unfold setAddHashed setAddHashedIn
  refine wpAny_holding (wpAny_bind (wpAny_setState_of ho hd F.fit ?_))
  dsimp only
  rw [byScan_of rfl (by rw [hz]; exact hb) hel]
  simp only [↓reduceIte]
  unfold setAddByScan
  refine wpAny_bind (wpAny_bind (wpAny_rule (wpAny_bind (wpAny_setScan_of (knd := strKind P w) (k := k) (is_str k u) ho hd F.fit hel ?_))))
  cases hf : List.findIdx? (fun e => (strKind P w).is k e.2) es.toList with
  | some j => exact wpAny_pure (wpAny_pure h)
  | none =>
    obtain ⟨e, he, q⟩ := (F.mem k).mp hk
    have c := List.findIdx?_eq_none_iff.mp hf e he
    rw [q] at c
    cases c
theorem put_x {a : Addr} {D : SD} {l : List Str} {k : Str} {u : Tok} {Q : Bool → Shared → Prop} (ho : s.heap.get? a = some (sObj "set" D)) (T : TbS w D l) (hb : l.length + 1 < scanBound)
    (h : ∀ b h' D', (∀ c o, c ≠ a → s.heap.get? c = some o → h'.get? c = some o) → s.heap.objs.size ≤ h'.objs.size → h'.get? a = some (sObj "set" D') → TbS w D' (addS l k) → Q b { s with heap := h' }) : wpAny (model P w) A (setAddHashed a (.str k u) (hashStr w k)) Q E s := by
  by_cases hk : k ∈ l
  · refine had_x ho T hk (by omega) (h false s.heap D (fun _ _ _ e => e) (Nat.le_refl _) ho ?_)
    unfold addS
    rw [if_pos hk]
    exact T
  · refine add_x ho T.tx hk hb (h true _ (addTx (hashStr w k) (.str k u) D) (fun c o hc e => ?_) ?_ (get_upd _ ho rfl) ?_)
    · rw [Heap.get?_update_other _ _ (Ne.symm hc)]; exact e
    · rw [Heap.size_update]; exact Nat.le_refl _
    · unfold addS
      rw [if_neg hk]
      exact T.add u hk
end
section
variable {prog : Program} {w : World} {A : Around} {R : Result → Shared → Prop} {I : Addr} {fp wr : List Addr} {G : Array GenState → Array GenState → Prop} {n : Nat} {Pv : Nat → Value → Prop} {St : Nat → Shared → Prop}
theorem loop_set (W : WalksS prog w A.in1 I fp wr G n Pv St) (S : Addr) (hSf : S ∉ fp) (xs : List Str) (hz : xs.length = n)
    (hv : ∀ i v, Pv i v → ∃ t, v = .str (xs.getD i Str.empty) t) :
    ∀ (ys : List Str) (i : Nat) (s : Shared) (D : SD) (l : List Str), xs.drop i = ys → i ≤ n → St i s → l.length + ys.length < scanBound →
      s.heap.get? S = some (sObj "set" D) → TbS w D l →
      (∀ s' D', Moved (S :: wr) G s s' → s'.heap.get? S = some (sObj "set" D') → TbS w D' (ys.foldl addS l) → R (.ok (.ret .none)) s') →
      codeAny (model prog w) A (.builtin "set.update.loop" ⟨[.ref S, .ref I], []⟩) R s := by
  have hSw : S ∉ wr := fun h => hSf (W.sub _ h)
  have hsub : ∀ b ∈ wr, b ∈ S :: wr := fun b hb => List.mem_cons_of_mem _ hb
  intro ys
  induction ys with
  | nil =>
    intro i s D l hy hi hst hl ho T hR
    have hin : i = n := by
      have := congrArg List.length hy
      rw [List.length_drop, List.length_nil] at this
      omega
    subst hin
    refine codeAny_builtin F.entry_set_update_loop ?_
    rw [Around.under_plainId F.plain_set_update_loop _]
    refine wpAny_bind (m := pyNext (.ref I)) (W.done s _ _ hst fun s' hm => ?_)
    exact wpAny_pure (hR s' D (hm.mono hsub) (hm.heap S _ hSw ho) T)
  | cons x ys ih =>
    intro i s D l hy hi hst hl ho T hR
    have hlt : i < n := by
      have := congrArg List.length hy
      rw [List.length_drop, List.length_cons] at this
      omega
    have hx : xs.getD i Str.empty = x := by
      have e : xs[i]? = some x := by
        have := congrArg List.head? hy
        rw [List.head?_drop] at this
        exact this
      rw [List.getD_eq_getElem?_getD, e]; rfl
    have hy2 : xs.drop (i + 1) = ys := by
      rw [← List.drop_drop, hy]; rfl
    refine codeAny_builtin F.entry_set_update_loop ?_
    rw [Around.under_plainId F.plain_set_update_loop _]
    refine wpAny_bind (m := pyNext (.ref I)) (W.item i s _ _ hlt hst fun v s' hP hst' hm => ?_)
    obtain ⟨t, rfl⟩ := hv i v hP
    rw [hx]
    refine wpAny_bind (m := holding [Value.str x t] (setAdd S (.str x t))) (wpAny_holding ?_)
    unfold setAdd
    rw [List.length_cons] at hl
    refine wpAny_holding (wpAny_bind ((PySem.strKind prog w).pyHash (k := x) (is_str x t) ?_))
    refine put_x (s := { s' with toks := s'.toks + 1 }) (hm.heap S _ hSw ho) T (by omega) fun b h' D' k1 k2 k3 k4 => ?_
    refine wpAny_pure ⟨plainId_quiet F.plain_set_update_loop _, ih (i + 1) _ D' (addS l x) hy2 hlt (W.frame _ s' _ _ hst' (Nat.le_succ _) fun c hc o e => k1 c o (fun z => hSf (z ▸ hc)) e) ?_ k3 k4 fun s'' D'' hm'' h1 h2 => ?_⟩
    · have := addS_len l x
      omega
    · exact hR s'' D'' (Moved.trans W.gtrans ((hm.mono hsub).then_heap (Nat.le_succ _) fun c o hc e => k1 c o (fun z => hc (by rw [z]; exact List.mem_cons_self)) e) hm'') h1 h2
end
section
variable {prog : Program} {w : World} {A : Around} {E : Value → Shared → Prop} {s : Shared}
def newS (w : World) : Obj := sObj "set" (#[], 0, .fresh 0 0 (!w.params.followText "set-order"))
theorem new_tb (w : World) : TbS w (#[], 0, .fresh 0 0 (!w.params.followText "set-order")) [] where
  good := fun e he => by simp at he
  keys := List.Perm.refl _
  nd := List.nodup_nil
  fit := rfl
  ris := List.Pairwise.nil
  led := by
    show _ ∨ (!w.params.followText "set-order") = true
    cases w.params.followText "set-order"
    · exact .inr rfl
    · exact .inl rfl
theorem made_set (x : Value) {Z : Value → Shared → Prop} (q : Z (.ref s.heap.objs.size) { s with heap := s.heap.push (newS w) }) :
    codeAny (model prog w) A (.call (.builtin "set.__new__") ⟨[.type "set", x], []⟩) (wants Z E) s := by
  refine codeAny_of_tree (wpAny_bind (m := checkBuiltinCall "set.__new__" ⟨[.type "set", x], []⟩) (wpAny_of_eq (F.newCall_set_1 x) (wpAny_pure ⟨plainId_quiet F.plain_set_new _, codeAny_builtin F.entry_set_new ?_⟩)))
  rw [Around.under_plainId F.plain_set_new _]
  unfold Builtin.«set.__new__» Builtin.Frozenset.newClass
  have hq0 := sub_set_self
  obtain ⟨hp, g, d, tk, os⟩ := s
  dsimp only
  wp_walk
  refine wpAny_askSetting (wpAny_pure ?_)
  dsimp only
  simp only [newObj]
  exact wpAny_bind (wpAny_alloc (wpAny_pure (wpAny_pure q)))
theorem set_of {l : Addr} {items : Array Value} {xs : List Str} {Q : Value → Shared → Prop}
    (hh : A.handled = none) (hl : s.heap.IsList l items) (hi : StrsAre items.toList xs) (hn : xs.length < scanBound)
    (h : ∀ (h' : Heap) (tk : Nat) (D : SD), h'.get? s.heap.objs.size = some (sObj "set" D) → TbS w D (xs.foldl addS []) →
      (∀ b o, s.heap.get? b = some o → h'.get? b = some o) → Q (.ref s.heap.objs.size) { s with heap := h', toks := tk }) :
    wpAny (model prog w) A (call (.type "set") [.ref l]) Q E s := by
  obtain ⟨c, tl, q1⟩ := PySem.F.called_set.mro
  have q2 := PySem.F.called_set.made
  have q3 := PySem.F.called_set.sub
  refine wpAny_call (codeAny_of_tree (?_ : wpAny _ _ (callAny (.type "set") _) _ _ _))
  refine wpAny_pure ⟨Code.quiet_builtin _ (by decide +kernel), codeAny_builtin PySem.F.entry_type_call ?_⟩
  rw [Around.under_plain (weight_type_call_type "set" [.ref l] []) rfl]
  have q4 := PySem.F.called_set.notType
  have q5 := PySem.F.called_set.canCreate
  have q6 := PySem.F.typeCall_set_1 (.ref l)
  repeat (any_goals (first | assumption | wp_step))
  refine codeAny_mono (made_set (.ref l) (E := E) (Z := fun v s1 => v = .ref s.heap.objs.size ∧ s1 = { s with heap := s.heap.push (newS w) }) ⟨rfl, rfl⟩) fun r s1 hr => ?_
  cases r with
  | error e => exact hr
  | ok fl =>
    cases fl with
    | ret obj =>
      obtain ⟨rfl, rfl⟩ := hr
      have hS : (s.heap.push (newS w)).get? s.heap.objs.size = some (newS w) := Heap.get?_push_size _ rfl
      have hT : Shared.TypeIs { s with heap := s.heap.push (newS w) } (.ref s.heap.objs.size) "set" := ⟨_, hS, rfl⟩
      have q7 := PySem.F.called_set.init.lookup
      have q8 := PySem.F.called_set.init.bind (.ref s.heap.objs.size)
      repeat (any_goals (first | assumption | wp_step))
      refine codeAny_mono (codeAny_call_builtin (R := wants (fun r s2 => r = .none ∧ ∃ h' tk D, s2 = { s with heap := h', toks := tk } ∧ h'.get? s.heap.objs.size = some (sObj "set" D) ∧ TbS w D (xs.foldl addS []) ∧
          (∀ b o, s.heap.get? b = some o → h'.get? b = some o)) E) PySem.F.called_set.init.plain PySem.F.entry_set_init (check_set_init_1 hT ?_)) fun r2 s2 hr2 => ?_
      · obtain ⟨ol, hol, hcl, nl, hdl⟩ := hl
        obtain ⟨oc, od, odata, osl⟩ := ol
        simp only at hcl hdl
        subst hcl; subst hdl
        have hol' : (s.heap.push (newS w)).get? l = some { cls := .type "list", dict := od, data := .seq items nl, slots := osl } := Heap.get?_push_of_some _ hol
        have q9 := PySem.F.sub_list_set
        have q10 := PySem.F.sub_list_frozenset
        have q11 : (Value.type "list" == Value.type "dict") = false := by decide
        have hl1 : (s.heap.push (newS w)).IsList l items := ⟨_, hol', rfl, nl, rfl⟩
        unfold Builtin.«set.__init__» noKeywords Builtin.Frozenset.updateFrom
        generalize hPI : pyIter = PI
        wp_walk
        subst hPI
        refine wpAny_pyIter_list hl1 (wpAny_bind (wpAny_runValue ?_))
        have hlS : l < s.heap.objs.size := Heap.lt_size hol
        have hz1 : (s.heap.push (newS w)).objs.size = s.heap.objs.size + 1 := Heap.size_push _ _
        have hneI : l ≠ (s.heap.push (newS w)).objs.size := by rw [hz1]; exact Nat.ne_of_lt (Nat.lt_succ_of_lt hlS)
        have hSf : s.heap.objs.size ∉ [(s.heap.push (newS w)).objs.size, l] := by
          rw [hz1]
          intro hm
          rcases List.mem_cons.mp hm with z | z
          · exact Nat.ne_of_lt (Nat.lt_succ_self _) z
          · exact Nat.ne_of_gt hlS (List.mem_singleton.mp z)
        have hsz : xs.length = items.size := by rw [← StrsAre.len_eq hi, Array.length_toList]
        refine loop_set ((Walks.list (by simp [hh]) _ l hneI items).toS) s.heap.objs.size hSf xs hsz (fun i v hv => SS.strs_at hi i v (by rw [Array.getElem?_toList]; exact hv)) xs 0 _ _ [] rfl (Nat.zero_le _)
          ⟨⟨_, Heap.get?_push_size _ rfl, rfl, rfl⟩, (hl1.push _)⟩ (by simpa using hn) (Heap.get?_push_of_some _ hS) (new_tb w) fun s' D' hm h1 h2 => ?_
        obtain ⟨h', g', d', tk', os'⟩ := s'
        have eg : g' = s.gens := hm.gens
        have ed : d' = s.drawn := hm.drawn
        have eo : os' = s.os := hm.os
        subst eg; subst ed; subst eo
        refine (?_ : wpAny _ _ _ _ _ _)
        refine wpAny_pure ?_
        refine (?_ : wpAny _ _ (ret Value.none) _ _ _)
        refine wpAny_pure ⟨rfl, h', tk', D', rfl, h1, h2, fun b o e => ?_⟩
        have hb := Heap.lt_size e
        refine hm.heap b o (fun z => ?_) (Heap.get?_push_of_some _ (Heap.get?_push_of_some _ e))
        rcases List.mem_cons.mp z with z | z
        · exact Nat.ne_of_lt hb z
        · have z2 := List.mem_singleton.mp z
          rw [hz1] at z2
          exact Nat.ne_of_lt (Nat.lt_succ_of_lt hb) z2
      · cases r2 with
        | error e => exact hr2
        | ok fl2 =>
          cases fl2 with
          | ret r =>
            obtain ⟨rfl, h', tk, D, rfl, h1, h2, h3⟩ := hr2
            repeat (any_goals (first | assumption | wp_step))
            exact h _ _ D h1 h2 h3
          | _ => exact hr2.elim
    | _ => exact hr.elim
end
end Pl

set_option maxHeartbeats 4000000
set_option maxRecDepth 100000
/-! sorted(set(texts)), the calls. -/
namespace Pl
open PySem L2 PyProof.Rows PySem.Froz
theorem keys_strs (w : World) : ∀ {vs : List Value} {l : List (Int × Value)}, vs = l.map (·.2) → (∀ e ∈ l, ∃ k u, e.2 = Value.str k u ∧ e.1 = hashStr w k) → StrsAre vs (l.map keyS)
  | _, [], rfl, _ => .nil
  | _, e :: l, rfl, h => by
    obtain ⟨k, u, h1, _⟩ := h e List.mem_cons_self
    have e1 : keyS e = k := by unfold keyS; rw [h1]
    show StrsAre (e.2 :: l.map (·.2)) (keyS e :: l.map keyS)
    rw [h1, e1]
    exact .cons k u (keys_strs w rfl fun x hx => h x (List.mem_cons_of_mem _ hx))
theorem strs_all : ∀ (vs : List Value), (∀ v ∈ vs, ∃ k u, v = Value.str k u) → StrsAre vs (vs.map fun v => keyS (0, v))
  | [], _ => .nil
  | v :: vs, h => by
    obtain ⟨k, u, rfl⟩ := h v List.mem_cons_self
    exact .cons k u (strs_all vs fun x hx => h x (List.mem_cons_of_mem _ hx))
section
variable {P : Program} {w : World} {A : Around} {E : Value → Shared → Prop} {s : Shared}
theorem sorted_txt {a : Addr} {D : SD} {l : List Str} {Q : Value → Shared → Prop} (ho : s.heap.get? a = some (sObj "set" D)) (T : TbS w D l) (hh : A.handled = none) (h64 : l.length < 64)
    (hQ : ∀ s' p (out : Array Value) (c : Nat) (ys : List Str), (∀ b o, s.heap.get? b = some o → s'.heap.get? b = some o) → s'.gens = s.gens → s'.os = s.os → s.heap.objs.size ≤ p →
      s'.heap.get? p = some (seqObj "list" out c) → StrsAre out.toList ys → ys.Perm l → sortedS ys = true → Q (.ref p) s') :
    wpAny (model P w) A (call (.builtin "sorted") [.ref a]) Q E s := by
  have hz : D.1.size = l.length := (T.tx (P := P)).sz
  obtain ⟨es, ep, t⟩ := D
  have hz' : es.size = l.length := hz
  refine Calls.call_function_entry kind_sorted plain_sorted entry_sorted (args_sorted1 _) ?_
  unfold Builtin.«sorted»
  refine wpAny_bind (m := checkCount "sorted" 1 1 _) (wpAny_pure (wpAny_bind (collect_set (A := A.in1) hh ⟨_, ho, rfl, rfl⟩ T.fit (by rw [hz']; unfold scanBound; omega) T.ris T.led fun s1 vs k1 z1 g1 o1 pm => ?_)))
  have hvl : vs.length = l.length := by rw [pm.length_eq, List.length_map, Array.length_toList]; exact hz'
  have hS : StrsAre vs (vs.map fun v => keyS (0, v)) := strs_all vs fun v hv => by
    obtain ⟨e, he, q⟩ := List.mem_map.mp (pm.mem_iff.mp hv)
    obtain ⟨k, u, h1, _⟩ := T.good e he
    exact ⟨k, u, by rw [← q]; exact h1⟩
  have pk : (vs.map fun v => keyS (0, v)).Perm l := by
    have q := pm.map fun v => keyS (0, v)
    rw [List.map_map] at q
    exact q.trans T.keys
  refine wpAny_bind (wpAny_newList ?_ (by rw [hvl, sizeLine_eq]; omega))
  have hoL : (s1.heap.push (seqObj "list" vs.toArray 0)).get? s1.heap.objs.size = some (seqObj "list" vs.toArray 0) := Heap.get?_push_size _ rfl
  refine wpAny_bind (wpAny_holding (wpAny_call_entry slot_list_sort ⟨_, hoL, rfl⟩ entry_list_sort (list_sort_treeK strKind_oneLt (s := { s1 with heap := s1.heap.push (seqObj "list" vs.toArray 0) }) hoL hS.keysOf (fun v₁ v₂ rest e => keyKind_strs (by rw [← e]; exact hS)) (by rw [hvl]; exact h64) fun st' hp hs => ⟨_, rfl, ?_⟩) (args_list_sort _)))
  obtain ⟨ys, b1, b2, b3⟩ := sorted_out_str hS hp hs
  obtain ⟨c, hc⟩ := sortedHeap_at (vs := vs) (out := (arrOf st').map (·.2)) hoL
  refine wpAny_pure ⟨_, rfl, hQ _ s1.heap.objs.size _ c ys (fun b u e => ?_) g1 o1 z1 hc b1 (b2.trans pk) b3⟩
  have q := k1 b u e
  have hlt := Heap.lt_size q
  refine (sortedHeap_old (Nat.ne_of_lt hlt) (by rw [Heap.size_push]; exact Nat.lt_succ_of_lt hlt)).trans ?_
  exact Heap.get?_push_of_some _ q
end
def SetT (w : World) (a : Addr) (l : List Str) : HO := .ext fun h => ∃ D, h.get? a = some (sObj "set" D) ∧ TbS w D l
def rSetT (w : World) (K : PySem.W.Frag) : List V → Hp → VK → Prop := fun vs H Q => ∃ (a : Addr) (xs : List Str), vs = [V.ref a] ∧ SqL K H a (xs.map V.str) ∧ xs.length < 64 ∧ ∀ p, H p = none → Q (.ref p) (upd H p (SetT w p (xs.foldl addS [])))
def rSortT (w : World) : List V → Hp → VK → Prop := fun vs H Q => ∃ (a : Addr) (l : List Str), vs = [V.ref a] ∧ H a = some (SetT w a l) ∧ l.length < 64 ∧ ∀ (ys : List Str) (p : Addr), ys.Perm l → sortedS ys = true → H p = none → Q (.ref p) (upd H p (.lst (ys.map V.str)))
section
variable {X : Cx}
theorem cr_setT (hc : X.calm = true) : CallR X (.type "set") (rSetT X.w X.K) := by
  intro pins s σ H vs us Q I r h
  obtain ⟨a, xs, rfl, hq, h64, q⟩ := h
  rw [Vals.ref1 r]
  obtain ⟨its, rv, pl, hz⟩ := I.list hq
  refine set_of (xs := xs) (I.ok.hd hc) pl.isList (by simpa using rv.strs) (by unfold scanBound; omega) fun h' tk D h1 h2 h3 => ?_
  exact ⟨.ref _, upd H s.heap.objs.size (SetT X.w s.heap.objs.size (xs.foldl addS [])), I.laid (t' := tk) h3 (Nat.le_refl _) ⟨⟨D, h1, h2⟩, ⟨_, h1⟩, fun g1 g2 p k => p.elim fun D' z => ⟨D', k _ z.1, z.2⟩⟩, rfl, q _ (I.hok.fresh (Nat.le_refl _))⟩
theorem cr_sortT (hc : X.calm = true) : CallR X (.builtin "sorted") (rSortT X.w) := by
  intro pins s σ H vs us Q I r h
  obtain ⟨a, l, rfl, ha, h64, q⟩ := h
  rw [Vals.ref1 r]
  obtain ⟨D, ho, T⟩ : ∃ D, s.heap.get? a = some (sObj "set" D) ∧ TbS X.w D l := (I.hok a _ ha).1
  refine sorted_txt ho T (I.ok.hd hc) h64 fun s' p out c ys k g o hp hg hi hm hs => ?_
  have hlen : (ys.map V.str).length ≤ sizeLine := by rw [List.length_map, hm.length_eq, sizeLine_eq]; omega
  have hn : H p = none := I.hok.fresh hp
  have J : Inv X pins σ (upd H p (.lst (ys.map V.str))) { s with heap := s'.heap, gens := s'.gens, drawn := s'.drawn, toks := s'.toks } :=
    I.call (ch := []) (Un.laid k hp hn) (I.hok.laid k hp ⟨hlen, out.toList, c, vals_of_strs hi, hg⟩) (by rw [g]; exact I.bare) (fun _ z => nomatch z)
  have e : s' = { s with heap := s'.heap, gens := s'.gens, drawn := s'.drawn, toks := s'.toks } := by
    cases s'
    cases s
    cases o
    rfl
  rw [e]
  exact ⟨.ref p, _, J, rfl, q ys p hm hs hn⟩
end
theorem addS_of : ∀ (xs l : List (List Nat)), (xs.map strOf).foldl addS (l.map strOf) = (xs.foldl (fun l x => if x ∈ l then l else x :: l) l).map strOf
  | [], l => rfl
  | x :: xs, l => by
    rw [List.map_cons, List.foldl_cons, List.foldl_cons]
    have e : addS (l.map strOf) (strOf x) = (if x ∈ l then l else x :: l).map strOf := by
      unfold addS
      by_cases h : x ∈ l
      · rw [if_pos h, if_pos (List.mem_map_of_mem h)]
      · rw [if_neg h, if_neg (fun z => by
          obtain ⟨y, hy, q⟩ := List.mem_map.mp z
          exact h (strOf_inj.mp q ▸ hy))]
        rfl
    rw [e, addS_of xs]
theorem ded_len : ∀ (xs l : List (List Nat)), (xs.foldl (fun l x => if x ∈ l then l else x :: l) l).length ≤ l.length + xs.length
  | [], l => Nat.le_refl _
  | x :: xs, l => by
    rw [List.foldl_cons]
    refine Nat.le_trans (ded_len xs _) ?_
    rw [List.length_cons]
    split
    · omega
    · rw [List.length_cons]; omega
section
variable {X : Cx} {nm : Nat → Addr} {nms : Nat → Str} {C : Nat → List D → Sto → R D} {G : Nat → Option D} {fl : Fl} {fx : Fx}
theorem sf_sset (g : Gd X nm nms C G fl fx) {e : Expr} {m : Sq} {p p2 q pos : Pos} (h : PE X e (tQ X.K nm fx (evQ C G m))) (hg : Gl X "sorted") (hg2 : Gl X "set") (he : starEach [e] X.env = (false, eval e X.env) :: starEach [] X.env) :
    PE X (.Call (.Name "sorted" p) [.Call (.Name "set" p2) [e] [] q] [] pos) (tF X.K nm fx (evF C G (.sset m))) := by
  refine PEimp (pe_callB (cr_sortT g.calm) hg (g.blt _ (by simp [blts])) (by decide +kernel) (pa_one (pe_callTy (cr_setT g.calm) hg2 (g.blt _ (by simp [blts])) (by decide +kernel) (pa_one h he) (by decide) (by decide) he) rfl) (by decide) (by decide) rfl) fun σ H Q h => ?_
  obtain ⟨ι, S, ρ, st, w⟩ := h
  simp only [evF] at w
  refine ⟨ι, S, ρ, st, w.bind.mono fun sv S1 w1 a ι1 H1 r1 e1 p1 => ?_⟩
  obtain ⟨xs, h1, h2, _, h4⟩ := sq_at r1 p1
  split at w1
  · rename_i ys hys
    split at hys
    · cases hys
    · rename_i ht
      split at w1
      · rename_i hl
        have e4 := strs_rep hys h4
        refine ⟨a, ys.map strOf, rfl, by rw [← e4]; exact h2 (by simpa using ht), by rw [List.length_map]; exact hl, fun o ho => ?_⟩
        obtain ⟨r2, e2⟩ := r1.side (o := SetT X.w o ((ys.map strOf).foldl addS [])) ho
        have e5 : (ys.map strOf).foldl addS [] = (dedL ys).map strOf := addS_of ys []
        refine ⟨o, _, rfl, upd_same, ?_, fun zs q hp hs hq => ?_⟩
        · rw [e5, List.length_map]
          have := ded_len ys []
          rw [List.length_nil] at this
          unfold dedL
          omega
        rw [e5] at hp
        rw [sort_one hp hs]
        obtain ⟨r3, e3⟩ := r2.side (o := .lst (((sortL (dedL ys)).map strOf).map V.str)) hq
        exact w1 q _ ι1 _ r3 (e1.trans (e2.trans e3)) (none_of (e1.trans e2) hq (r2.free hq)) upd_same (r2.free hq) (strs_reps _)
      · exact w1.elim
  · exact w1.elim
end
end Pl

set_option maxHeartbeats 4000000
/-! The check that a text is what one of Pl's trees says, and that it does then what the tree says. -/
namespace Pl
open PySem L2

structure Cc where
  N : List Str
  nms : Nat → Str
  fl : Fl
def visB (sc : Scope) (x : Str) : Bool := match sc.names.lookup x with
  | some .local => true | some .cell => true | some .free => true | _ => false
def gloB (sc : Scope) (x : Str) : Bool := match sc.names.lookup x with
  | some .globalImplicit => true | _ => false
def locB (sc : Scope) (x : Str) : Bool := match sc.names.lookup x with
  | some .local => true | some .cell => true | _ => false
def notB (x : Str) : Bool := !(x == ("__debug__" : Str)) && !(x == ("__classdict__" : Str))
def plnE : Expr → Bool
  | .Starred .. => false | _ => true
def plnX : Expr → Bool
  | .Slice .. => false | _ => true
def plnF : Expr → Bool
  | .Set .. => false | _ => true
def plnA : Expr → Bool
  | .Call (.Name ..) [] [] _ => false | _ => true
def plnC : Expr → Bool
  | .ListComp .. => false | .SetComp .. => false | .DictComp .. => false | _ => true
def plnT : Expr → Bool
  | .Tuple .. => false | .ListComp .. => false | .SetComp .. => false | .DictComp .. => false | _ => true
def plnI : Expr → Bool
  | .Name .. => true | .Call .. => true | .Subscript .. => true | .Constant .. => true | .Attribute .. => true | _ => false
theorem plnE_ok {e : Expr} {r : List Expr} {env : Env} (h : plnE e = true) : starEach (e :: r) env = (false, eval e env) :: starEach r env := by
  cases e <;> first | rfl | cases h
theorem plnX_ok {e : Expr} (h : plnX e = true) : PlainIx e := by
  cases e <;> first | (intro o i; rfl) | cases h
theorem plnF_ok {e : Expr} {env : Env} (h : plnF e = true) (x : Value) : foldedSetIterable e env x = pure x := by
  cases e <;> first | rfl | cases h
theorem plnA_ok {e : Expr} {a : Str} {env : Env} (h : plnA e = true) : attributeBase e a env (eval e env) = eval e env := by
  unfold attributeBase
  split
  · cases h
  · rfl
theorem plnC_ok {e : Expr} {t : Option Expr} {l : Nat} {env : Env} (h : plnC e = true) : swapsWith e t l env = pure false := by
  cases e <;> first | rfl | cases h
theorem plnI_ok {e : Expr} {env : Env} (h : plnI e = true) (whole : Sem Value) : isTrue e env whole = (do let v ← whole; standAt e.pos; holding [v] (truthy v)) := by
  cases e <;> first | rfl | cases h
theorem plnStar {es : List Expr} {env : Env} (pos : Pos) (h : es.all plnE = true) : (backTo pos (starEach es env)).any (·.1) = false := by
  induction es with
  | nil => rfl
  | cons e r ih =>
    simp only [List.all_cons, Bool.and_eq_true] at h
    rw [plnE_ok h.1]
    show (false || _) = false
    exact ih h.2
def ckGs (N : List Str) (ss : Scope) : List Nat → List Expr → Bool
  | [], es => es.isEmpty
  | i :: is, es => match es with
    | .Name x _ :: r => decide (N[i]? = some x) && locB ss x && ckGs N ss is r
    | _ => false
def ckG (N : List Str) (ss : Scope) (tg : List Nat) (pat : Bool) (e : Expr) : Bool := match pat with
  | false => match tg, e with
    | [i], .Name x _ => decide (N[i]? = some x) && locB ss x
    | _, _ => false
  | true => match e with
    | .Tuple es _ _ => ckGs N ss tg es
    | _ => false
def cstB (d : D) (e : Expr) : Bool := match d, e with
  | .int i, .Constant (.int j) _ _ => decide (i = j)
  | .str x, .Constant (.str y) _ _ => decide (strOf x = y)
  | .bl a, .Constant (.bool b) _ _ => a == b
  | .non, .Constant .none _ _ => true
  | _, _ => false
def isDin : Ex → Bool
  | .din .. => true
  | _ => false
section
variable (c : Cc)
mutual
def ckE : Ex → Scope → Expr → Bool
  | .var i, sc, e => match e with
    | .Name x _ => decide (c.N[i]? = some x) && visB sc x && notB x
    | _ => false
  | .glo n, sc, e => match e with
    | .Name x _ => decide (x = c.nms n) && gloB sc x && notB x
    | _ => false
  | .cst d, _, e => cstB d e
  | .tup ms, sc, e => match e with
    | .Tuple es _ _ => ckEs ms sc es
    | _ => false
  | .bin op a b, sc, e => match e with
    | .BinOp x o y _ => decide (o = op.op) && ckE a sc x && ckE b sc y
    | _ => false
  | .neg a, sc, e => match e with
    | .UnaryOp .USub x _ => ckE a sc x
    | _ => false
  | .cmp op a b, sc, e => match e with
    | .Compare x [o] [y] _ => decide (o = op.op) && (!behindInMarks op.op y) && ckE a sc x && ckE b sc y
    | _ => false
  | .chn o1 o2 a b d, sc, e => match e with
    | .Compare x [p1, p2] [y, z] _ => decide (p1 = o1.op) && decide (p2 = o2.op) && (!lastMarks [o1.op, o2.op] [y, z]) && ckE a sc x && ckE b sc y && ckE d sc z
    | _ => false
  | .and_ a b, sc, e => match e with
    | .BoolOp .And (x :: y :: r) p => ckE a sc x && (match r with | [] => ckE b sc y | _ :: _ => ckE b sc (.BoolOp .And (y :: r) p))
    | _ => false
  | .or_ a b, sc, e => match e with
    | .BoolOp .Or (x :: y :: r) p => ckE a sc x && (match r with | [] => ckE b sc y | _ :: _ => ckE b sc (.BoolOp .Or (y :: r) p))
    | _ => false
  | .not_ a, sc, e => match e with
    | .UnaryOp .Not x _ => ckE a sc x
    | _ => false
  | .ifx t a b, sc, e => match e with
    | .IfExp x y z _ => ckT t sc x && ckE a sc y && ckE b sc z
    | _ => false
  | .idx a b, sc, e => match e with
    | .Subscript x y _ => plnX y && ckE a sc x && ckE b sc y
    | _ => false
  | .sli a lo hi, sc, e => match e with
    | .Subscript x (.Slice l h none _) _ => ckE a sc x && ckO lo sc l && ckO hi sc h
    | _ => false
  | .call f ms, sc, e => match e with
    | .Call (.Name x _) es [] _ => decide (x = c.nms f) && gloB sc x && notB x && c.fl.on f && ckEs ms sc es
    | _ => false
  | .callk f ms ks perm, sc, e => match e with
    | .Call (.Name x _) es kws _ => decide (x = c.nms f) && gloB sc x && notB x && c.fl.on f && c.fl.kw f ms.length (kws.filterMap fun k => k.arg) perm && decide ((kws.filterMap fun k => k.arg).length = ks.length) && ckEs ms sc es && ckKs ks sc kws
    | _ => false
  | .new q, sc, e => ckF q sc e
  | .len m, sc, e => match e with
    | .Call (.Name x _) [a] [] _ => decide (x = ("len" : Str)) && gloB sc x && plnE a && ckE m sc a
    | _ => false
  | .lenq q, sc, e => match e with
    | .Call (.Name x _) [a] [] _ => decide (x = ("len" : Str)) && gloB sc x && plnE a && ckQ q sc a
    | _ => false
  | .all_ q, sc, e => match e with
    | .Call (.Name x _) [a] [] _ => decide (x = ("all" : Str)) && gloB sc x && plnE a && ckQ q sc a
    | _ => false
  | .any_ q, sc, e => match e with
    | .Call (.Name x _) [a] [] _ => decide (x = ("any" : Str)) && gloB sc x && plnE a && ckQ q sc a
    | _ => false
  | .tupq q, sc, e => match e with
    | .Call (.Name x _) [a] [] _ => decide (x = ("tuple" : Str)) && gloB sc x && plnE a && ckQ q sc a
    | _ => false
  | .join s q, sc, e => match e with
    | .Call (.Attribute o x p) [a] [] pos => decide (x = ("join" : Str)) && plnE a && plnA o && (p.endLine == pos.line) && ckE s sc o && ckQ q sc a
    | _ => false
  | .find3 s t i, sc, e => match e with
    | .Call (.Attribute o x p) [a, b] [] pos => decide (x = ("find" : Str)) && plnE a && plnE b && plnA o && (p.endLine == pos.line) && ckE s sc o && ckE t sc a && ckE i sc b
    | _ => false
  | .part s t, sc, e => match e with
    | .Call (.Attribute o x p) [a] [] pos => decide (x = ("partition" : Str)) && plnE a && plnA o && (p.endLine == pos.line) && ckE s sc o && ckE t sc a
    | _ => false
  | .isi m t, sc, e => match e with
    | .Call (.Name x _) [a, .Name y _] [] _ => decide (x = ("isinstance" : Str)) && gloB sc x && plnE a && decide (y = (t.tn : Str)) && gloB sc y && ckE m sc a
    | _ => false
  | .isi2 m t u, sc, e => match e with
    | .Call (.Name x _) [a, .Tuple [.Name y _, .Name z _] _ _] [] _ => decide (x = ("isinstance" : Str)) && gloB sc x && plnE a && decide (y = (t.tn : Str)) && gloB sc y && decide (z = (u.tn : Str)) && gloB sc z && ckE m sc a
    | _ => false
  | .app o m, sc, e => match e with
    | .Call (.Attribute q x p) [a] [] pos => decide (x = ("append" : Str)) && plnE a && plnA q && (p.endLine == pos.line) && ckE o sc q && ckE m sc a
    | _ => false
  | .lm m o ms, sc, e => match e with
    | .Call (.Attribute q x p) es [] pos => decide (x = m.nam) && (m.arg == !es.isEmpty) && plnA q && (p.endLine == pos.line) && decide (es.length < 20) && ckE o sc q && ckEs ms sc es
    | _ => false
  | .rev m, sc, e => match e with
    | .Subscript x (.Slice none none (some (.UnaryOp .USub (.Constant (.int i) _ _) _)) _) _ => decide (i = 1) && ckE m sc x
    | _ => false
  | .intb m, sc, e => match e with
    | .Call (.Name x _) [a] [] _ => decide (x = ("int" : Str)) && gloB sc x && plnE a && ckE m sc a
    | _ => false
  | .no, _, _ => true
  | .dnew, _, e => match e with
    | .Dict [] [] _ => true
    | _ => false
  | .disp ms, sc, e => match e with
    | .Dict keys values _ => decide (ms.length % 2 = 0) && (keys.all fun k => k.isSome) && decide (keys.length = values.length) && (!keys.isEmpty) && decide (keys.length ≤ 15) && ckPs ms sc keys values
    | _ => false
  | .dget o i, sc, e => match e with
    | .Subscript x y _ => plnX y && ckE o sc x && ckE i sc y
    | _ => false
  | .din neg i o, sc, e => match e with
    | .Compare x [p] [y] _ => decide (p = cond neg .NotIn .In) && (!behindInMarks (cond neg .NotIn .In) y) && ckE i sc x && ckE o sc y
    | _ => false
  | .dlen m, sc, e => match e with
    | .Call (.Name x _) [a] [] _ => decide (x = ("len" : Str)) && gloB sc x && plnE a && ckE m sc a
    | _ => false
  | .dgt1 o i, sc, e => match e with
    | .Call (.Attribute q x p) [a] [] pos => decide (x = ("get" : Str)) && plnE a && plnA q && (p.endLine == pos.line) && ckE o sc q && ckE i sc a
    | _ => false
  | .attr c' m f, sc, e => match e with
    | .Attribute x a _ => decide (a = f) && plnA x && c.fl.fld c' f && ckE m sc x
    | _ => false
  | .meth c' m g o ms, sc, e => match e with
    | .Call (.Attribute q x p) es [] pos => decide (x = m) && plnA q && (p.endLine == pos.line) && decide (es.length < 20) && c.fl.mth c' m g && ckE o sc q && ckEs ms sc es
    | _ => false
  | .make c' g ms, sc, e => match e with
    | .Call (.Name x _) es [] _ => decide (x = c.nms c') && gloB sc x && notB x && c.fl.mkc c' g && ckEs ms sc es
    | _ => false
  | .calls _ _ f ms, sc, e => match e with
    | .Call (.Name x _) es [] _ => decide (x = c.nms f) && gloB sc x && notB x && c.fl.on f && ckEs ms sc es
    | _ => false
  | .meths _ _ c' m g o ms, sc, e => match e with
    | .Call (.Attribute q x p) es [] pos => decide (x = m) && plnA q && (p.endLine == pos.line) && decide (es.length < 20) && c.fl.mth c' m g && ckE o sc q && ckEs ms sc es
    | _ => false
  | .makes _ c' g ms, sc, e => match e with
    | .Call (.Name x _) es [] _ => decide (x = c.nms c') && gloB sc x && notB x && c.fl.mkc c' g && ckEs ms sc es
    | _ => false
  | .frn q, sc, e => ckF q sc e
  | .revs m, sc, e => match e with
    | .Subscript x (.Slice none none (some (.UnaryOp .USub (.Constant (.int i) _ _) _)) _) _ => decide (i = 1) && ckE m sc x
    | _ => false
  | .mm mx m n, sc, e => match e with
    | .Call (.Name x _) [a, b] [] _ => decide (x = if mx then ("max" : Str) else ("min" : Str)) && gloB sc x && plnE a && plnE b && ckE m sc a && ckE n sc b
    | _ => false
  | .lidx o m, sc, e => match e with
    | .Call (.Attribute q x p) [a] [] pos => decide (x = ("index" : Str)) && plnE a && plnA q && (p.endLine == pos.line) && ckE o sc q && ckE m sc a
    | _ => false
  | .agg k q, sc, e => match e with
    | .Call (.Name x _) [a] [] _ => decide (x = agN k) && gloB sc x && plnE a && ckQ q sc a
    | _ => false
  | .callv fs _ _ f ms, sc, e => match e with
    | .Call (.Name x p) (a :: r) [] _ => fs.all c.fl.on && ckE f sc (.Name x p) && ckEs ms sc (a :: r)
    | _ => false
def ckPs : List Ex → Scope → List (Option Expr) → List Expr → Bool
  | [], _, ks, vs => ks.isEmpty && vs.isEmpty
  | [_], _, _, _ => false
  | a :: b :: r, sc, ks, vs => match ks, vs with
    | some k :: ks, v :: vs => ckE a sc k && ckE b sc v && ckPs r sc ks vs
    | _, _ => false
def ckEs : List Ex → Scope → List Expr → Bool
  | [], _, es => es.isEmpty
  | m :: ms, sc, es => match es with
    | e :: r => plnE e && ckE m sc e && ckEs ms sc r
    | [] => false
def ckKs : List Ex → Scope → List Keyword → Bool
  | [], _, es => es.isEmpty
  | m :: ms, sc, es => match es with
    | ⟨some _, e, _⟩ :: r => ckE m sc e && ckKs ms sc r
    | _ => false
def ckO : Option Ex → Scope → Option Expr → Bool
  | none, _, o => o.isNone
  | some m, sc, o => match o with
    | some e => ckE m sc e
    | none => false
def ckT : Te → Scope → Expr → Bool
  | .ex m, sc, e => (plnI e || isDin m) && ckE m sc e
  | .cmp op a b, sc, e => match e with
    | .Compare x [o] [y] _ => decide (o = op.op) && (!behindInMarks op.op y) && ckE a sc x && ckE b sc y
    | _ => false
  | .chn o1 o2 a b d, sc, e => match e with
    | .Compare x [p1, p2] [y, z] _ => decide (p1 = o1.op) && decide (p2 = o2.op) && (!lastMarks [o1.op, o2.op] [y, z]) && ckE a sc x && ckE b sc y && ckE d sc z
    | _ => false
  | .and_ a b, sc, e => match e with
    | .BoolOp .And (x :: y :: r) p => ckT a sc x && (match r with | [] => ckT b sc y | _ :: _ => ckT b sc (.BoolOp .And (y :: r) p))
    | _ => false
  | .or_ a b, sc, e => match e with
    | .BoolOp .Or (x :: y :: r) p => ckT a sc x && (match r with | [] => ckT b sc y | _ :: _ => ckT b sc (.BoolOp .Or (y :: r) p))
    | _ => false
  | .not_ a, sc, e => match e with
    | .UnaryOp .Not x _ => ckT a sc x
    | _ => false
def ckTo : Option Te → Scope → List Expr → Bool
  | none, _, es => es.isEmpty
  | some m, sc, es => match es with
    | [e] => ckT m sc e
    | _ => false
def ckF : Fr → Scope → Expr → Bool
  | .lst ms, sc, e => match e with
    | .List es _ => ckEs ms sc es
    | _ => false
  | .lc own tg pat it cond elt, sc, e => match e with
    | .ListComp x [⟨t, i, ifs, a⟩] scope _ => decide (a = 0) && blkC c.N sc scope own && plnF i && ckG c.N scope tg pat t && (tg.all fun j => (own.map Prod.snd).contains j) && ckI it sc t i && ckTo cond (relS scope sc) ifs && ckE elt (relS scope sc) x
    | _ => false
  | .list q, sc, e => match e with
    | .Call (.Name x _) [a] [] _ => decide (x = ("list" : Str)) && gloB sc x && plnE a && ckQ q sc a
    | _ => false
  | .sortT q, sc, e => match e with
    | .Call (.Name x _) [a] [] _ => decide (x = ("sorted" : Str)) && gloB sc x && plnE a && ckQ q sc a
    | _ => false
  | .sset q, sc, e => match e with
    | .Call (.Name x _) [.Call (.Name y _) [a] [] _] [] _ => decide (x = ("sorted" : Str)) && decide (y = ("set" : Str)) && gloB sc x && gloB sc y && plnE a && ckQ q sc a
    | _ => false
  | .chars m, sc, e => match e with
    | .Call (.Name x _) [a] [] _ => decide (x = ("list" : Str)) && gloB sc x && plnE a && ckE m sc a
    | _ => false
  | .dkeys m, sc, e => match e with
    | .Call (.Name x _) [a] [] _ => decide (x = ("list" : Str)) && gloB sc x && plnE a && ckE m sc a
    | _ => false
  | .cut m lo hi, sc, e => match e with
    | .Subscript x (.Slice l h none _) _ => ckE m sc x && ckO lo sc l && ckO hi sc h
    | _ => false
def ckQ : Sq → Scope → Expr → Bool
  | .ex m, sc, e => ckE m sc e
  | .fr m, sc, e => ckF m sc e
def ckI : It → Scope → Expr → Expr → Bool
  | .sq q, sc, _, e => ckQ q sc e
  | .str m, sc, _, e => ckE m sc e
  | .rng m, sc, _, e => match e with
    | .Call (.Name x _) [a] [] _ => decide (x = ("range" : Str)) && gloB sc x && plnE a && ckE m sc a
    | _ => false
  | .rng2 m n, sc, _, e => match e with
    | .Call (.Name x _) [a, b] [] _ => decide (x = ("range" : Str)) && gloB sc x && plnE a && plnE b && ckE m sc a && ckE n sc b
    | _ => false
  | .zip p q, sc, t, e => match t, e with
    | .Tuple _ _ _, .Call (.Name x _) [a, b] [] _ => decide (x = ("zip" : Str)) && gloB sc x && plnE a && plnE b && ckQ p sc a && ckQ q sc b
    | _, _ => false
  | .enum q, sc, t, e => match t, e with
    | .Tuple _ _ _, .Call (.Name x _) [a] [] _ => decide (x = ("enumerate" : Str)) && gloB sc x && plnE a && ckQ q sc a
    | _, _ => false
end
end
section
variable {X : Cx} {nm : Nat → Addr} {c : Cc} {C : Nat → List D → Sto → R D} {G : Nat → Option D} {fx : Fx}
structure Cok (X : Cx) (c : Cc) (sc : Scope) : Prop where
  N : X.N = c.N
  se : X.env.scope = sc
  kd : sc.kind = .function
theorem visB_ok {sc : Scope} {x : Str} (h : visB sc x = true) : Vis sc x := by
  unfold visB at h
  split at h <;> first | cases h; done | skip
  · exact .inl (by assumption)
  · exact .inr (.inl (by assumption))
  · exact .inr (.inr (by assumption))
theorem locB_ok {sc : Scope} {x : Str} (h : locB sc x = true) : Loc sc x := by
  unfold locB at h
  split at h <;> first | cases h; done | skip
  · exact .inl (by assumption)
  · exact .inr (by assumption)
theorem gloB_ok {sc : Scope} {x : Str} (k : Cok X c sc) (h : gloB sc x = true) : Gl X x := by
  unfold gloB at h
  split at h <;> first | cases h; done | skip
  show X.env.scope.names.lookup x = _
  rw [k.se]
  assumption
theorem notB_ok {x : Str} (h : notB x = true) : (x == ("__debug__" : Str)) = false ∧ (x == ("__classdict__" : Str)) = false := by
  simpa [notB] using h
theorem cstB_ok {d : D} {e : Expr} (h : cstB d e = true) : PE X e (tE X.K nm fx (ev C G (.cst d))) := by
  unfold cstB at h
  split at h
  · simp only [decide_eq_true_eq] at h
    subst h
    exact se_cst pe_int fun ι H => rfl
  · simp only [decide_eq_true_eq] at h
    subst h
    exact se_cst pe_str fun ι H => rfl
  · simp only [beq_iff_eq] at h
    subst h
    exact se_cst pe_bl fun ι H => rfl
  · exact se_cst pe_non fun ι H => rfl
  · cases h
theorem meth_eval {o : Expr} {m : Str} {apos pos : Pos} {es : List Expr} {env : Env} (hbase : attributeBase o m env (eval o env) = eval o env) (hfew : ((backTo pos (starEach es env)).all (fun x => !x.1) && (backToKw pos (keywordEach [] env)).all (fun x => x.1.isSome)
      && decide (es.length + ([] : List Keyword).length + (if ([] : List Keyword).isEmpty then 0 else 1) < 30)) = true) (hline : (apos.endLine == pos.line) = true) : ∃ pl : Sem Bool, eval (.Call (.Attribute o m apos) es [] pos) env = (do
      let ov ← eval o env
      standAt apos.atName
      let (f, first) ← holding [ov] (getMethod ov m pl)
      callWith pos f first (backTo pos (starEach es env)) (backToKw pos (keywordEach [] env))) := by
  have hform : methodCallForm (es.length + ([] : List Keyword).length) (backTo pos (starEach es env)) (backToKw pos (keywordEach [] env)) = true := hfew
  have hpos : methodCallPos true o env apos pos = pure pos := by unfold methodCallPos; simp [hline]
  refine ⟨(do return (← importBound o env).getD true), ?_⟩
  rw [arm_eval_Call, hbase]
  unfold methodCall
  rw [hform, hpos]
  unfold calleeOf
  simp only [if_true, pure_bind]
/-- where targets are stored -/
def StOk (X : Cx) (ss : Scope) : Prop := ∀ x, locB ss x = true → Loc X.env.scope x ∧ (X.fn x = true ∨ X.env.scope.names.lookup x = some .local)
theorem ckGs_len {N : List Str} {ss : Scope} {env : Env} : ∀ {tg : List Nat} {es : List Expr}, ckGs N ss tg es = true → (assignEach es env).length = tg.length ∧ (assignEach es env).findIdx? (·.1) = none
  | [], es, h => by
    simp only [ckGs, List.isEmpty_iff] at h
    subst h
    exact ⟨rfl, rfl⟩
  | i :: is, es, h => by
    simp only [ckGs] at h
    split at h
    · rename_i x p r
      simp only [Bool.and_eq_true] at h
      obtain ⟨h1, h2⟩ := ckGs_len (env := env) h.2
      refine ⟨by show _ + 1 = _; rw [h1]; rfl, ?_⟩
      show List.findIdx? _ ((false, assign (.Name x p) env) :: assignEach r env) = none
      rw [List.findIdx?_cons]
      simp [h2]
    · cases h
theorem ckGs_ok {N : List Str} {ss : Scope} (hn : X.N = N) (hd : X.N.Nodup) (ho : StOk X ss) : ∀ {tg : List Nat} {es : List Expr}, ckGs N ss tg es = true → PGs X es (gAll tg)
  | [], es, h => by
    simp only [ckGs, List.isEmpty_iff] at h
    subst h
    exact pgs_nil
  | i :: is, es, h => by
    simp only [ckGs] at h
    split at h
    · rename_i x p r
      simp only [Bool.and_eq_true, decide_eq_true_eq] at h
      obtain ⟨h1, h2⟩ := ho x h.1.2
      exact pgs_cons (pg_name hd (by rw [hn]; exact h.1.1) h1 h2) (ckGs_ok hn hd ho h.2)
    · cases h
theorem ckG_ok {N : List Str} {ss : Scope} (hc : X.calm = true) (hn : X.N = N) (hd : X.N.Nodup) (ho : StOk X ss) {tg : List Nat} {pat : Bool} {e : Expr} (h : ckG N ss tg pat e = true) : PG X e (gTg X.K tg pat) := by
  unfold ckG at h
  split at h
  · split at h
    · simp only [Bool.and_eq_true, decide_eq_true_eq] at h
      obtain ⟨h1, h2⟩ := ho _ h.2
      exact pg_name hd (by rw [hn]; exact h.1) h1 h2
    · cases h
  · split at h
    · obtain ⟨h1, h2⟩ := ckGs_len (env := X.env) h
      exact pg_tup hc (ckGs_ok hn hd ho h) h1 h2
    · cases h



theorem Gl.n {x y : Str} (e : x = y) (h : Gl X x) : Gl X y := e ▸ h
theorem relS_kind {scope sc : Scope} : (relS scope sc).kind = scope.kind := rfl
theorem Cok.blk {sc scope : Scope} (k : Cok X c sc) (s : Shared) (H : Hp) (cenv : Env) (fp : List Addr) (he : cenv.scope = relS scope sc) (hk : scope.kind = .function) : Cok (X.blk s H scope cenv fp) c (relS scope sc) :=
  ⟨k.N, he, hk⟩
theorem StOk.blk {sc scope : Scope} (s : Shared) (H : Hp) (cenv : Env) (fp : List Addr) (he : cenv.scope = relS scope sc) : StOk (X.blk s H scope cenv fp) scope := fun x h => by
  unfold locB at h
  split at h <;> first | cases h; done | skip
  · rename_i q
    have := lookup_relS_keep (sc := sc) (k := .local) (by decide) q
    have e : (X.blk s H scope cenv fp).env.scope.names.lookup x = some .local := by
      show cenv.scope.names.lookup x = _
      rw [he]
      exact this
    exact ⟨.inl e, .inr e⟩
  · rename_i q
    have := lookup_relS_keep (sc := sc) (k := .cell) (by decide) q
    have e : (X.blk s H scope cenv fp).env.scope.names.lookup x = some .cell := by
      show cenv.scope.names.lookup x = _
      rw [he]
      exact this
    refine ⟨.inr e, .inl ?_⟩
    show (scope.names.lookup x == some .cell) = true
    rw [q]
    rfl
end
end Pl

set_option maxHeartbeats 4000000
/-! The check is sound. -/
namespace Pl
open PySem L2
section
variable {nm : Nat → Addr} {c : Cc} {C : Nat → List D → Sto → R D} {G : Nat → Option D}
theorem tyne {s : String} {x : Str} {p : Pos} {X : Cx} (hg : Gl X x) (e : x = (s : Str)) (hb : X.mg (s : Str) = none) (hv : bootBuiltins (s : Str) = some (.type s)) (h1 : (s : Str) ≠ "__name__") (h2 : ((s : Str) == ("__debug__" : Str)) = false) : PE X (.Name x p) (tC (.ty s)) := by
  subst e
  exact pe_bltn hg hb hv rfl h1 h2
theorem ty_name {X : Cx} {t : Ty} {x : Str} {p : Pos} {fx : Fx} {fl : Fl} {nms : Nat → Str} (g : Gd X nm nms C G fl fx) (hg : Gl X x) (e : x = (t.tn : Str)) : PE X (.Name x p) (tC (.ty t.tn)) := by
  cases t
  · exact tyne hg e (g.blt _ (by simp [blts, Ty.tn])) (by decide +kernel) (by decide) (by decide)
  · exact tyne hg e (g.blt _ (by simp [blts, Ty.tn])) (by decide +kernel) (by decide) (by decide)
  · exact tyne hg e (g.blt _ (by simp [blts, Ty.tn])) (by decide +kernel) (by decide) (by decide)
  · exact tyne hg e (g.blt _ (by simp [blts, Ty.tn])) (by decide +kernel) (by decide) (by decide)
  · exact tyne hg e (g.blt _ (by simp [blts, Ty.tn])) (by decide +kernel) (by decide) (by decide)
theorem ckEs_pln : ∀ {ms : List Ex} {sc : Scope} {es : List Expr}, ckEs c ms sc es = true → es.all plnE = true
  | [], sc, es, h => by
    simp only [ckEs, List.isEmpty_iff] at h
    subst h
    rfl
  | m :: ms, sc, es, h => by
    simp only [ckEs] at h
    split at h
    · simp only [Bool.and_eq_true] at h
      simp only [List.all_cons, Bool.and_eq_true]
      exact ⟨h.1.1, ckEs_pln h.2⟩
    · cases h
theorem ckKs_some : ∀ {ms : List Ex} {sc : Scope} {es : List Keyword}, ckKs c ms sc es = true → es.all (fun k => k.arg.isSome) = true
  | [], sc, es, h => by
    simp only [ckKs, List.isEmpty_iff] at h
    subst h
    rfl
  | m :: ms, sc, es, h => by
    simp only [ckKs] at h
    split at h
    · simp only [Bool.and_eq_true] at h
      simp only [List.all_cons, Bool.and_eq_true]
      exact ⟨rfl, ckKs_some h.2⟩
    · cases h
theorem few_all {es : List Expr} {env : Env} {pos : Pos} (h : es.all plnE = true) : (backTo pos (starEach es env)).all (fun x => !x.1) = true := by
  induction es with
  | nil => rfl
  | cons e r ih =>
    simp only [List.all_cons, Bool.and_eq_true] at h
    rw [plnE_ok h.1]
    show (true && _) = true
    rw [Bool.true_and]
    exact ih h.2
theorem few_ok {es : List Expr} {env : Env} {pos : Pos} (h : es.all plnE = true) (hl : es.length < 20) : ((backTo pos (starEach es env)).all (fun x => !x.1) && (backToKw pos (keywordEach [] env)).all (fun x => x.1.isSome)
      && decide (es.length + ([] : List Keyword).length + (if ([] : List Keyword).isEmpty then 0 else 1) < 30)) = true := by
  rw [few_all h]
  have : decide (es.length + ([] : List Keyword).length + (if ([] : List Keyword).isEmpty then 0 else 1) < 30) = true := by
    refine decide_eq_true ?_
    show es.length + 0 + 0 < 30
    omega
  rw [this]
  rfl
mutual
theorem sE : ∀ (m : Ex) {e : Expr} {sc : Scope} {X : Cx} {fx : Fx}, Gd X nm c.nms C G c.fl fx → Cok X c sc → ckE c m sc e = true → PE X e (tE X.K nm fx (ev C G m))
  | .var i, e, sc, X, fx, g, k, h => by
    simp only [ckE] at h
    split at h <;> first | cases h; done | skip
    simp only [Bool.and_eq_true, decide_eq_true_eq] at h
    obtain ⟨h1, h2⟩ := notB_ok h.2
    exact se_var (by rw [k.N]; exact h.1.1) (by rw [k.se]; exact visB_ok h.1.2) h1 h2
  | .glo n, e, sc, X, fx, g, k, h => by
    simp only [ckE] at h
    split at h <;> first | cases h; done | skip
    simp only [Bool.and_eq_true, decide_eq_true_eq] at h
    obtain ⟨⟨rfl, h3⟩, h4⟩ := h
    exact se_glo g (gloB_ok k h3) (notB_ok h4).1
  | .cst d, e, sc, X, fx, g, k, h => by
    simp only [ckE] at h
    exact cstB_ok h
  | .tup ms, e, sc, X, fx, g, k, h => by
    simp only [ckE] at h
    split at h <;> first | cases h; done | skip
    exact se_tup (sEs ms g k h)
  | .bin op a b, e, sc, X, fx, g, k, h => by
    simp only [ckE] at h
    split at h <;> first | cases h; done | skip
    simp only [Bool.and_eq_true, decide_eq_true_eq] at h
    obtain ⟨⟨rfl, h3⟩, h4⟩ := h
    exact se_bin g (sE a g k h3) (sE b g k h4)
  | .neg a, e, sc, X, fx, g, k, h => by
    simp only [ckE] at h
    split at h <;> first | cases h; done | skip
    exact se_neg (sE a g k h)
  | .cmp op a b, e, sc, X, fx, g, k, h => by
    simp only [ckE] at h
    split at h <;> first | cases h; done | skip
    simp only [Bool.and_eq_true, decide_eq_true_eq, Bool.not_eq_true'] at h
    obtain ⟨⟨⟨rfl, h2⟩, h3⟩, h4⟩ := h
    exact se_cmp g (sE a g k h3) (sE b g k h4) h2
  | .chn o1 o2 a b d, e, sc, X, fx, g, k, h => by
    simp only [ckE] at h
    split at h <;> first | cases h; done | skip
    simp only [Bool.and_eq_true, decide_eq_true_eq, Bool.not_eq_true'] at h
    obtain ⟨⟨⟨⟨⟨rfl, rfl⟩, h2⟩, h3⟩, h4⟩, h5⟩ := h
    exact se_chn g (sE a g k h3) (sE b g k h4) (sE d g k h5) h2
  | .and_ a b, e, sc, X, fx, g, k, h => by
    simp only [ckE] at h
    split at h <;> first | cases h; done | skip
    rename_i x y r p
    simp only [Bool.and_eq_true] at h
    obtain ⟨h3, h4⟩ := h
    cases r with
    | nil => exact se_and (sE a g k h3) (pe_one (sE b g k h4))
    | cons z r => exact se_and (sE a g k h3) (sE b g k h4)
  | .or_ a b, e, sc, X, fx, g, k, h => by
    simp only [ckE] at h
    split at h <;> first | cases h; done | skip
    rename_i x y r p
    simp only [Bool.and_eq_true] at h
    obtain ⟨h3, h4⟩ := h
    cases r with
    | nil => exact se_or (sE a g k h3) (pe_one (sE b g k h4))
    | cons z r => exact se_or (sE a g k h3) (sE b g k h4)
  | .not_ a, e, sc, X, fx, g, k, h => by
    simp only [ckE] at h
    split at h <;> first | cases h; done | skip
    exact se_not (sE a g k h)
  | .ifx t a b, e, sc, X, fx, g, k, h => by
    simp only [ckE] at h
    split at h <;> first | cases h; done | skip
    simp only [Bool.and_eq_true] at h
    obtain ⟨⟨h2, h3⟩, h4⟩ := h
    exact se_ifx (sT t g k h2).1 (sE a g k h3) (sE b g k h4)
  | .idx a b, e, sc, X, fx, g, k, h => by
    simp only [ckE] at h
    split at h <;> first | cases h; done | skip
    simp only [Bool.and_eq_true] at h
    obtain ⟨⟨h2, h3⟩, h4⟩ := h
    exact se_idx g (sE a g k h3) (sE b g k h4) (plnX_ok h2)
  | .sli a lo hi, e, sc, X, fx, g, k, h => by
    simp only [ckE] at h
    split at h <;> first | cases h; done | skip
    simp only [Bool.and_eq_true] at h
    obtain ⟨⟨h2, h3⟩, h4⟩ := h
    exact se_sli (sE a g k h2) (sO lo g k h3) (sO hi g k h4)
  | .call f ms, e, sc, X, fx, g, k, h => by
    simp only [ckE] at h
    split at h <;> first | cases h; done | skip
    rename_i x p es pos
    simp only [Bool.and_eq_true, decide_eq_true_eq] at h
    obtain ⟨⟨⟨⟨rfl, h2⟩, h3⟩, h4⟩, h5⟩ := h
    have q := ckEs_pln h5
    have as := sEs ms g k h5
    cases es with
    | nil =>
      have : ms = [] := by
        cases ms with
        | nil => rfl
        | cons m r => simp [ckEs] at h5
      subst this
      exact se_call0 g h4 (gloB_ok k h2) (notB_ok h3).1
    | cons e r =>
      simp only [List.all_cons, Bool.and_eq_true] at q
      exact se_call g h4 as (gloB_ok k h2) (notB_ok h3).1 (plnE_ok q.1) (plnStar _ q.2)
  | .callk f ms ks perm, e, sc, X, fx, g, k, h => by
    simp only [ckE] at h
    split at h <;> first | cases h; done | skip
    rename_i x p es kws pos
    simp only [Bool.and_eq_true, decide_eq_true_eq] at h
    obtain ⟨⟨⟨⟨⟨⟨⟨rfl, h2⟩, h3⟩, h4⟩, h5⟩, h6⟩, h7⟩, h8⟩ := h
    have q := ckEs_pln h7
    refine se_callk g h4 h5 h6 (sEs ms g k h7) (sKs ks g k h8) (gloB_ok k h2) (notB_ok h3).1 (fun q => ?_) (fun e r q2 => ?_) (plnStar _ q) (ckKs_some h8)
    · subst q
      cases ms with
      | nil => rfl
      | cons m r => simp [ckEs] at h7
    · subst q2
      simp only [List.all_cons, Bool.and_eq_true] at q
      exact plnE_ok q.1
  | .new q, e, sc, X, fx, g, k, h => by
    simp only [ckE] at h
    exact se_new (sF q g k h)
  | .len m, e, sc, X, fx, g, k, h => by
    simp only [ckE] at h
    split at h <;> first | cases h; done | skip
    simp only [Bool.and_eq_true, decide_eq_true_eq] at h
    obtain ⟨⟨⟨rfl, h2⟩, h3⟩, h4⟩ := h
    exact se_len g (sE m g k h4) (gloB_ok k h2) (plnE_ok h3)
  | .lenq m, e, sc, X, fx, g, k, h => by
    simp only [ckE] at h
    split at h <;> first | cases h; done | skip
    simp only [Bool.and_eq_true, decide_eq_true_eq] at h
    obtain ⟨⟨⟨rfl, h2⟩, h3⟩, h4⟩ := h
    exact se_lenq g (sQ m g k h4) (gloB_ok k h2) (plnE_ok h3)
  | .all_ m, e, sc, X, fx, g, k, h => by
    simp only [ckE] at h
    split at h <;> first | cases h; done | skip
    simp only [Bool.and_eq_true, decide_eq_true_eq] at h
    obtain ⟨⟨⟨rfl, h2⟩, h3⟩, h4⟩ := h
    exact se_all g (sQ m g k h4) (gloB_ok k h2) (plnE_ok h3)
  | .any_ m, e, sc, X, fx, g, k, h => by
    simp only [ckE] at h
    split at h <;> first | cases h; done | skip
    simp only [Bool.and_eq_true, decide_eq_true_eq] at h
    obtain ⟨⟨⟨rfl, h2⟩, h3⟩, h4⟩ := h
    exact se_any g (sQ m g k h4) (gloB_ok k h2) (plnE_ok h3)
  | .tupq m, e, sc, X, fx, g, k, h => by
    simp only [ckE] at h
    split at h <;> first | cases h; done | skip
    simp only [Bool.and_eq_true, decide_eq_true_eq] at h
    obtain ⟨⟨⟨rfl, h2⟩, h3⟩, h4⟩ := h
    exact se_tupq g (sQ m g k h4) (gloB_ok k h2) (plnE_ok h3)
  | .join s q, e, sc, X, fx, g, k, h => by
    simp only [ckE] at h
    split at h <;> first | cases h; done | skip
    simp only [Bool.and_eq_true, decide_eq_true_eq] at h
    obtain ⟨⟨⟨⟨⟨rfl, h2⟩, h3⟩, h4⟩, h5⟩, h6⟩ := h
    exact se_join (sE s g k h5) (sQ q g k h6) (plnE_ok h2) (plnA_ok h3) h4
  | .find3 s t i, e, sc, X, fx, g, k, h => by
    simp only [ckE] at h
    split at h <;> first | cases h; done | skip
    simp only [Bool.and_eq_true, decide_eq_true_eq] at h
    obtain ⟨⟨⟨⟨⟨⟨⟨rfl, h2⟩, h3⟩, h4⟩, h5⟩, h6⟩, h7⟩, h8⟩ := h
    exact se_find3 (sE s g k h6) (sE t g k h7) (sE i g k h8) (plnE_ok h2) (plnE_ok h3) (plnA_ok h4) h5
  | .part s t, e, sc, X, fx, g, k, h => by
    simp only [ckE] at h
    split at h <;> first | cases h; done | skip
    simp only [Bool.and_eq_true, decide_eq_true_eq] at h
    obtain ⟨⟨⟨⟨⟨rfl, h2⟩, h3⟩, h4⟩, h5⟩, h6⟩ := h
    exact se_part (sE s g k h5) (sE t g k h6) (plnE_ok h2) (plnA_ok h3) h4
  | .isi m t, e, sc, X, fx, g, k, h => by
    simp only [ckE] at h
    split at h <;> first | cases h; done | skip
    simp only [Bool.and_eq_true, decide_eq_true_eq] at h
    obtain ⟨⟨⟨⟨⟨rfl, h2⟩, h3⟩, h4⟩, h5⟩, h6⟩ := h
    exact se_isi g (sE m g k h6) (ty_name g (gloB_ok k h5) h4) (gloB_ok k h2) (plnE_ok h3)
  | .isi2 m t u, e, sc, X, fx, g, k, h => by
    simp only [ckE] at h
    split at h <;> first | cases h; done | skip
    simp only [Bool.and_eq_true, decide_eq_true_eq] at h
    obtain ⟨⟨⟨⟨⟨⟨⟨rfl, h2⟩, h3⟩, h4⟩, h5⟩, h6⟩, h7⟩, h8⟩ := h
    exact se_isi2 g (sE m g k h8) (ty_name g (gloB_ok k h5) h4) (ty_name g (gloB_ok k h7) h6) (gloB_ok k h2) (plnE_ok h3)
  | .app o m, e, sc, X, fx, g, k, h => by
    simp only [ckE] at h
    split at h <;> first | cases h; done | skip
    simp only [Bool.and_eq_true, decide_eq_true_eq] at h
    obtain ⟨⟨⟨⟨⟨rfl, h2⟩, h3⟩, h4⟩, h5⟩, h6⟩ := h
    exact se_app (sE o g k h5) (sE m g k h6) (plnE_ok h2) (plnA_ok h3) h4
  | .lm m o ms, e, sc, X, fx, g, k, h => by
    simp only [ckE] at h
    split at h <;> first | cases h; done | skip
    rename_i q x p es pos
    simp only [Bool.and_eq_true, decide_eq_true_eq, beq_iff_eq] at h
    obtain ⟨⟨⟨⟨⟨⟨rfl, h2⟩, h3⟩, h4⟩, h5⟩, h6⟩, h7⟩ := h
    have q2 := ckEs_pln h7
    refine se_lm (sE o g k h6) (sEs ms g k h7) h2 (fun q => ?_) (fun e r q3 => ?_) (plnA_ok h3) (by simpa using h4)
    · subst q
      cases ms with
      | nil => rfl
      | cons m r => simp [ckEs] at h7
    · subst q3
      have q4 := q2
      simp only [List.all_cons, Bool.and_eq_true] at q2
      refine ⟨plnE_ok q2.1, plnStar _ q2.2, ?_⟩
      rw [few_all q4]
      simp only [List.length_cons, Bool.true_and]
      simp only [List.length_cons] at h5
      have : decide (r.length + 1 + ([] : List Keyword).length + (if ([] : List Keyword).isEmpty then 0 else 1) < 30) = true := by
        refine decide_eq_true ?_
        show r.length + 1 + 0 + 0 < 30
        omega
      rw [this]
      rfl
  | .rev m, e, sc, X, fx, g, k, h => by
    simp only [ckE] at h
    split at h <;> first | cases h; done | skip
    simp only [Bool.and_eq_true, decide_eq_true_eq] at h
    obtain ⟨rfl, h2⟩ := h
    exact se_rev (sE m g k h2)
  | .intb m, e, sc, X, fx, g, k, h => by
    simp only [ckE] at h
    split at h <;> first | cases h; done | skip
    simp only [Bool.and_eq_true, decide_eq_true_eq] at h
    obtain ⟨⟨⟨rfl, h2⟩, h3⟩, h4⟩ := h
    exact se_intb g (sE m g k h4) (gloB_ok k h2) (plnE_ok h3)
  | .no, e, sc, X, fx, g, k, h => se_no
  | .dnew, e, sc, X, fx, g, k, h => by
    simp only [ckE] at h
    split at h <;> first | cases h; done | skip
    exact se_dnew
  | .disp ms, e, sc, X, fx, g, k, h => by
    simp only [ckE] at h
    split at h <;> first | cases h; done | skip
    simp only [Bool.and_eq_true, decide_eq_true_eq, Bool.not_eq_true'] at h
    obtain ⟨⟨⟨⟨⟨h1, h2⟩, h3⟩, h4⟩, h5⟩, h6⟩ := h
    exact se_disp (sPs ms g k h6) h1 h2 h3 (fun q => by rw [q] at h4; cases h4) h5
  | .dget o i, e, sc, X, fx, g, k, h => by
    simp only [ckE] at h
    split at h <;> first | cases h; done | skip
    simp only [Bool.and_eq_true] at h
    obtain ⟨⟨h2, h3⟩, h4⟩ := h
    exact se_dget g (sE o g k h3) (sE i g k h4) (plnX_ok h2)
  | .din neg i o, e, sc, X, fx, g, k, h => by
    simp only [ckE] at h
    split at h <;> first | cases h; done | skip
    simp only [Bool.and_eq_true, decide_eq_true_eq, Bool.not_eq_true'] at h
    obtain ⟨⟨⟨rfl, h2⟩, h3⟩, h4⟩ := h
    exact se_din g (sE i g k h3) (sE o g k h4) h2
  | .dlen m, e, sc, X, fx, g, k, h => by
    simp only [ckE] at h
    split at h <;> first | cases h; done | skip
    simp only [Bool.and_eq_true, decide_eq_true_eq] at h
    obtain ⟨⟨⟨rfl, h2⟩, h3⟩, h4⟩ := h
    exact se_dlen g (sE m g k h4) (gloB_ok k h2) (plnE_ok h3)
  | .dgt1 o i, e, sc, X, fx, g, k, h => by
    simp only [ckE] at h
    split at h <;> first | cases h; done | skip
    simp only [Bool.and_eq_true, decide_eq_true_eq] at h
    obtain ⟨⟨⟨⟨⟨rfl, h2⟩, h3⟩, h4⟩, h5⟩, h6⟩ := h
    exact se_dgt1 g (sE o g k h5) (sE i g k h6) ⟨plnA_ok h3, by rw [plnE_ok h2] <;> rfl, h4, by rw [plnE_ok h2] <;> rfl⟩
  | .attr c' m f, e, sc, X, fx, g, k, h => by
    simp only [ckE] at h
    split at h <;> first | cases h; done | skip
    simp only [Bool.and_eq_true, decide_eq_true_eq] at h
    obtain ⟨⟨⟨rfl, h2⟩, h3⟩, h4⟩ := h
    exact se_attr g h3 (sE m g k h4) (plnA_ok h2)
  | .meth c' m gf o ms, e, sc, X, fx, g, k, h => by
    simp only [ckE] at h
    split at h <;> first | cases h; done | skip
    rename_i q x p es pos
    simp only [Bool.and_eq_true, decide_eq_true_eq] at h
    obtain ⟨⟨⟨⟨⟨⟨rfl, h2⟩, h3⟩, h4⟩, h5⟩, h6⟩, h7⟩ := h
    have q2 := ckEs_pln h7
    refine se_meth g h5 (sE o g k h6) (sEs ms g k h7) (fun q => ?_) (fun e r q3 => ?_) (meth_eval (plnA_ok h2) (few_ok q2 h4) h3)
    · subst q
      cases ms with
      | nil => rfl
      | cons m r => simp [ckEs] at h7
    · subst q3
      simp only [List.all_cons, Bool.and_eq_true] at q2
      exact ⟨plnE_ok q2.1, plnStar _ q2.2⟩
  | .make c' gf ms, e, sc, X, fx, g, k, h => by
    simp only [ckE] at h
    split at h <;> first | cases h; done | skip
    rename_i x p es pos
    simp only [Bool.and_eq_true, decide_eq_true_eq] at h
    obtain ⟨⟨⟨⟨rfl, h2⟩, h3⟩, h4⟩, h5⟩ := h
    have q2 := ckEs_pln h5
    refine se_make g h4 (gloB_ok k h2) (notB_ok h3).1 (sEs ms g k h5) (fun q => ?_) (fun e r q3 => ?_)
    · subst q
      cases ms with
      | nil => rfl
      | cons m r => simp [ckEs] at h5
    · subst q3
      simp only [List.all_cons, Bool.and_eq_true] at q2
      exact ⟨plnE_ok q2.1, plnStar _ q2.2⟩
  | .meths mm bb c' m gf o ms, e, sc, X, fx, g, k, h => by
    simp only [ckE] at h
    split at h <;> first | cases h; done | skip
    rename_i q x p es pos
    simp only [Bool.and_eq_true, decide_eq_true_eq] at h
    obtain ⟨⟨⟨⟨⟨⟨rfl, h2⟩, h3⟩, h4⟩, h5⟩, h6⟩, h7⟩ := h
    have q2 := ckEs_pln h7
    refine se_meths g h5 (sE o g k h6) (sEs ms g k h7) (fun q => ?_) (fun e r q3 => ?_) (meth_eval (plnA_ok h2) (few_ok q2 h4) h3)
    · subst q
      cases ms with
      | nil => rfl
      | cons m r => simp [ckEs] at h7
    · subst q3
      simp only [List.all_cons, Bool.and_eq_true] at q2
      exact ⟨plnE_ok q2.1, plnStar _ q2.2⟩
  | .makes mm c' gf ms, e, sc, X, fx, g, k, h => by
    simp only [ckE] at h
    split at h <;> first | cases h; done | skip
    rename_i x p es pos
    simp only [Bool.and_eq_true, decide_eq_true_eq] at h
    obtain ⟨⟨⟨⟨rfl, h2⟩, h3⟩, h4⟩, h5⟩ := h
    have q2 := ckEs_pln h5
    refine se_makes g h4 (gloB_ok k h2) (notB_ok h3).1 (sEs ms g k h5) (fun q => ?_) (fun e r q3 => ?_)
    · subst q
      cases ms with
      | nil => rfl
      | cons m r => simp [ckEs] at h5
    · subst q3
      simp only [List.all_cons, Bool.and_eq_true] at q2
      exact ⟨plnE_ok q2.1, plnStar _ q2.2⟩
  | .calls mm bb f ms, e, sc, X, fx, g, k, h => by
    simp only [ckE] at h
    split at h <;> first | cases h; done | skip
    rename_i x p es pos
    simp only [Bool.and_eq_true, decide_eq_true_eq] at h
    obtain ⟨⟨⟨⟨rfl, h2⟩, h3⟩, h4⟩, h5⟩ := h
    have q := ckEs_pln h5
    have as := sEs ms g k h5
    have hnil : es = [] → ms = [] := fun q => by
      subst q
      cases ms with
      | nil => rfl
      | cons m r => simp [ckEs] at h5
    exact se_calls g h4 as hnil (gloB_ok k h2) (notB_ok h3).1 fun e r q2 => by
      subst q2
      simp only [List.all_cons, Bool.and_eq_true] at q
      exact ⟨plnE_ok q.1, plnStar _ q.2⟩
  | .frn q, e, sc, X, fx, g, k, h => by
    simp only [ckE] at h
    exact se_frn (sF q g k h)
  | .revs m, e, sc, X, fx, g, k, h => by
    simp only [ckE] at h
    split at h <;> first | cases h; done | skip
    simp only [Bool.and_eq_true, decide_eq_true_eq] at h
    obtain ⟨rfl, h2⟩ := h
    exact se_revs (sE m g k h2)
  | .mm mx m n, e, sc, X, fx, g, k, h => by
    simp only [ckE] at h
    split at h <;> first | cases h; done | skip
    simp only [Bool.and_eq_true, decide_eq_true_eq] at h
    obtain ⟨⟨⟨⟨⟨rfl, h2⟩, h3⟩, h4⟩, h5⟩, h6⟩ := h
    cases mx
    · exact se_mm (mx := false) g (sE m g k h5) (sE n g k h6) (gloB_ok k h2) (plnE_ok h3) (plnE_ok h4)
    · exact se_mm (mx := true) g (sE m g k h5) (sE n g k h6) (gloB_ok k h2) (plnE_ok h3) (plnE_ok h4)
  | .lidx o m, e, sc, X, fx, g, k, h => by
    simp only [ckE] at h
    split at h <;> first | cases h; done | skip
    simp only [Bool.and_eq_true, decide_eq_true_eq] at h
    obtain ⟨⟨⟨⟨⟨rfl, h2⟩, h3⟩, h4⟩, h5⟩, h6⟩ := h
    exact se_lidx g (sE o g k h5) (sE m g k h6) (plnE_ok h2) (plnA_ok h3) h4
  | .agg kk m, e, sc, X, fx, g, k, h => by
    simp only [ckE] at h
    split at h <;> first | cases h; done | skip
    simp only [Bool.and_eq_true, decide_eq_true_eq] at h
    obtain ⟨⟨⟨rfl, h2⟩, h3⟩, h4⟩ := h
    cases kk
    · exact se_agg (kk := .mn) g (sQ m g k h4) (gloB_ok k h2) (plnE_ok h3)
    · exact se_agg (kk := .mx) g (sQ m g k h4) (gloB_ok k h2) (plnE_ok h3)
    · exact se_agg (kk := .sm) g (sQ m g k h4) (gloB_ok k h2) (plnE_ok h3)
  | .callv fs mm bb f ms, e, sc, X, fx, g, k, h => by
    simp only [ckE] at h
    split at h <;> first | cases h; done | skip
    simp only [Bool.and_eq_true] at h
    obtain ⟨⟨h1, h2⟩, h3⟩ := h
    have q := ckEs_pln h3
    simp only [List.all_cons, Bool.and_eq_true] at q
    exact se_callv g h1 (sE f g k h2) (sEs ms g k h3) (plnE_ok q.1) (plnStar _ q.2)
theorem sPs : ∀ (ms : List Ex) {ks : List (Option Expr)} {vs : List Expr} {pos : Pos} {sc : Scope} {X : Cx} {fx : Fx}, Gd X nm c.nms C G c.fl fx → Cok X c sc → ckPs c ms sc ks vs = true → PPs X pos ks vs (trsOf X.K nm fx C G ms)
  | [], ks, vs, pos, sc, X, fx, g, k, h => by
    simp only [ckPs, Bool.and_eq_true, List.isEmpty_iff] at h
    obtain ⟨rfl, rfl⟩ := h
    exact pps_nil
  | [_], ks, vs, pos, sc, X, fx, g, k, h => by
    simp only [ckPs] at h
    cases h
  | a :: b :: r, ks, vs, pos, sc, X, fx, g, k, h => by
    simp only [ckPs] at h
    split at h <;> first | cases h; done | skip
    simp only [Bool.and_eq_true] at h
    exact pps_cons (sE a g k h.1.1) (sE b g k h.1.2) (sPs r g k h.2)
theorem sEs : ∀ (ms : List Ex) {es : List Expr} {sc : Scope} {X : Cx} {fx : Fx}, Gd X nm c.nms C G c.fl fx → Cok X c sc → ckEs c ms sc es = true → PA X es (tA X.K nm fx (evs C G ms))
  | [], es, sc, X, fx, g, k, h => by
    simp only [ckEs, List.isEmpty_iff] at h
    subst h
    exact sa_nil
  | m :: ms, es, sc, X, fx, g, k, h => by
    simp only [ckEs] at h
    split at h <;> first | cases h; done | skip
    simp only [Bool.and_eq_true] at h
    exact sa_cons (sE m g k h.1.2) (sEs ms g k h.2) (plnE_ok h.1.1)
theorem sKs : ∀ (ms : List Ex) {es : List Keyword} {sc : Scope} {X : Cx} {fx : Fx}, Gd X nm c.nms C G c.fl fx → Cok X c sc → ckKs c ms sc es = true → PK X es (tA X.K nm fx (evs C G ms))
  | [], es, sc, X, fx, g, k, h => by
    simp only [ckKs, List.isEmpty_iff] at h
    subst h
    exact sk_nil
  | m :: ms, es, sc, X, fx, g, k, h => by
    simp only [ckKs] at h
    split at h <;> first | cases h; done | skip
    simp only [Bool.and_eq_true] at h
    exact sk_cons (sE m g k h.1) (sKs ms g k h.2)
theorem sO : ∀ (m : Option Ex) {e : Option Expr} {sc : Scope} {X : Cx} {fx : Fx}, Gd X nm c.nms C G c.fl fx → Cok X c sc → ckO c m sc e = true → PO X e (tO X.K nm fx (evo C G m))
  | none, e, sc, X, fx, g, k, h => by
    simp only [ckO, Option.isNone_iff_eq_none] at h
    subst h
    exact so_none
  | some m, e, sc, X, fx, g, k, h => by
    simp only [ckO] at h
    split at h <;> first | cases h; done | skip
    exact so_some (sE m g k h)
theorem sT : ∀ (m : Te) {e : Expr} {sc : Scope} {X : Cx} {fx : Fx}, Gd X nm c.nms C G c.fl fx → Cok X c sc → ckT c m sc e = true → PT X e (tT X.K nm fx (evT C G m)) ∧ ∀ op vs p, e = .BoolOp op vs p → PW X e (tT X.K nm fx (evT C G m))
  | .ex m, e, sc, X, fx, g, k, h => by
    simp only [ckT, Bool.and_eq_true, Bool.or_eq_true] at h
    obtain ⟨h1, h2⟩ := h
    rcases h1 with h1 | h1
    · refine ⟨st_ex (sE m g k h2) (plnI_ok h1), ?_⟩
      rintro op vs p rfl
      cases h1
    · cases m <;> first
        | (cases h1; done)
        | skip
      case din neg i o =>
      simp only [ckE] at h2
      split at h2 <;> first | cases h2; done | skip
      simp only [Bool.and_eq_true, decide_eq_true_eq, Bool.not_eq_true'] at h2
      obtain ⟨⟨⟨rfl, h2⟩, h3⟩, h4⟩ := h2
      exact ⟨st_din g (sE i g k h3) (sE o g k h4) h2, fun _ _ _ q => by cases q⟩
  | .cmp op a b, e, sc, X, fx, g, k, h => by
    simp only [ckT] at h
    split at h <;> first | cases h; done | skip
    simp only [Bool.and_eq_true, decide_eq_true_eq, Bool.not_eq_true'] at h
    obtain ⟨⟨⟨rfl, h2⟩, h3⟩, h4⟩ := h
    exact ⟨st_cmp g (sE a g k h3) (sE b g k h4) h2, fun _ _ _ q => by cases q⟩
  | .chn o1 o2 a b d, e, sc, X, fx, g, k, h => by
    simp only [ckT] at h
    split at h <;> first | cases h; done | skip
    simp only [Bool.and_eq_true, decide_eq_true_eq, Bool.not_eq_true'] at h
    obtain ⟨⟨⟨⟨⟨rfl, rfl⟩, h2⟩, h3⟩, h4⟩, h5⟩ := h
    exact ⟨st_chn g (sE a g k h3) (sE b g k h4) (sE d g k h5) h2, fun _ _ _ q => by cases q⟩
  | .and_ a b, e, sc, X, fx, g, k, h => by
    simp only [ckT] at h
    split at h <;> first | cases h; done | skip
    rename_i x y r p
    simp only [Bool.and_eq_true] at h
    obtain ⟨h3, h4⟩ := h
    have q : PW X (.BoolOp .And (x :: y :: r) p) (tT X.K nm fx (evT C G (.and_ a b))) := by
      cases r with
      | nil => exact sw_and (sT a g k h3).1 (pw_and1 (sT b g k h4).1)
      | cons z r => exact sw_and (sT a g k h3).1 ((sT b g k h4).2 _ _ _ rfl)
    exact ⟨q.pt, fun _ _ _ _ => q⟩
  | .or_ a b, e, sc, X, fx, g, k, h => by
    simp only [ckT] at h
    split at h <;> first | cases h; done | skip
    rename_i x y r p
    simp only [Bool.and_eq_true] at h
    obtain ⟨h3, h4⟩ := h
    have q : PW X (.BoolOp .Or (x :: y :: r) p) (tT X.K nm fx (evT C G (.or_ a b))) := by
      cases r with
      | nil => exact sw_or (sT a g k h3).1 (pw_or1 (sT b g k h4).1)
      | cons z r => exact sw_or (sT a g k h3).1 ((sT b g k h4).2 _ _ _ rfl)
    exact ⟨q.pt, fun _ _ _ _ => q⟩
  | .not_ a, e, sc, X, fx, g, k, h => by
    simp only [ckT] at h
    split at h <;> first | cases h; done | skip
    exact ⟨st_not (sT a g k h).1, fun _ _ _ q => by cases q⟩
theorem sTo : ∀ (m : Option Te) {es : List Expr} {sc : Scope} {X : Cx} {fx : Fx}, Gd X nm c.nms C G c.fl fx → Cok X c sc → ckTo c m sc es = true → PTs X es (tT X.K nm fx (evto C G m))
  | none, es, sc, X, fx, g, k, h => by
    simp only [ckTo, List.isEmpty_iff] at h
    subst h
    exact ⟨fun pins s σ H Q I h => pts_nil.run pins s σ H Q I (by
      obtain ⟨ι, S, ρ, st, w⟩ := h
      exact w ι H st.rel .refl)⟩
  | some m, es, sc, X, fx, g, k, h => by
    simp only [ckTo] at h
    split at h <;> first | cases h; done | skip
    exact pts_one (sT m g k h).1
theorem sF : ∀ (m : Fr) {e : Expr} {sc : Scope} {X : Cx} {fx : Fx}, Gd X nm c.nms C G c.fl fx → Cok X c sc → ckF c m sc e = true → PE X e (tF X.K nm fx (evF C G m))
  | .lst ms, e, sc, X, fx, g, k, h => by
    simp only [ckF] at h
    split at h <;> first | cases h; done | skip
    exact sf_lst (sEs ms g k h)
  | .lc own tg pat it cond elt, e, sc, X, fx, g, k, h => by
    simp only [ckF] at h
    split at h <;> first | cases h; done | skip
    rename_i x t i ifs a scope p
    simp only [Bool.and_eq_true, decide_eq_true_eq] at h
    obtain ⟨⟨⟨⟨⟨⟨⟨rfl, h1⟩, h2⟩, h3⟩, h4⟩, h5⟩, h6⟩, h7⟩ := h
    have ok := blkOk_by h1
    have go : ∀ (s : Shared) (H : Hp) (d : Addr) (cl : List (Str × Addr)) (fp : List Addr), Cok (X.blk s H scope (compEnvC scope cl d X.env) fp) c (relS scope sc) := fun s H d cl fp => by
      refine k.blk s H _ fp ?_ ok.kind
      rw [← k.se]
      rfl
    refine sf_lc g (sI it t g k h5) (by rw [k.N, k.se]; exact ok) (fun s H d cl fp => ?_) (fun s H d cl fp => sTo cond (g.blk s H scope _ fp) (go s H d cl fp) h6) (fun s H d cl fp => sE elt (g.blk s H scope _ fp) (go s H d cl fp) h7) (fun j hj => ?_) (plnF_ok h2)
    · exact ckG_ok (g.blk s H scope _ fp).calm (go s H d cl fp).N (g.blk s H scope _ fp).nd (StOk.blk (sc := X.env.scope) s H _ fp rfl) h3
    · have := List.all_eq_true.mp h4 j hj
      simpa using this
  | .list q, e, sc, X, fx, g, k, h => by
    simp only [ckF] at h
    split at h <;> first | cases h; done | skip
    simp only [Bool.and_eq_true, decide_eq_true_eq] at h
    obtain ⟨⟨⟨rfl, h2⟩, h3⟩, h4⟩ := h
    exact sf_list g (sQ q g k h4) (gloB_ok k h2) (plnE_ok h3)
  | .sortT q, e, sc, X, fx, g, k, h => by
    simp only [ckF] at h
    split at h <;> first | cases h; done | skip
    simp only [Bool.and_eq_true, decide_eq_true_eq] at h
    obtain ⟨⟨⟨rfl, h2⟩, h3⟩, h4⟩ := h
    exact sf_sortT g (sQ q g k h4) (gloB_ok k h2) (plnE_ok h3)
  | .sset q, e, sc, X, fx, g, k, h => by
    simp only [ckF] at h
    split at h <;> first | cases h; done | skip
    simp only [Bool.and_eq_true, decide_eq_true_eq] at h
    obtain ⟨⟨⟨⟨⟨rfl, rfl⟩, h2⟩, h3⟩, h4⟩, h5⟩ := h
    exact sf_sset g (sQ q g k h5) (gloB_ok k h2) (gloB_ok k h3) (plnE_ok h4)
  | .chars m, e, sc, X, fx, g, k, h => by
    simp only [ckF] at h
    split at h <;> first | cases h; done | skip
    simp only [Bool.and_eq_true, decide_eq_true_eq] at h
    obtain ⟨⟨⟨rfl, h2⟩, h3⟩, h4⟩ := h
    exact sf_chars g (sE m g k h4) (gloB_ok k h2) (plnE_ok h3)
  | .dkeys m, e, sc, X, fx, g, k, h => by
    simp only [ckF] at h
    split at h <;> first | cases h; done | skip
    simp only [Bool.and_eq_true, decide_eq_true_eq] at h
    obtain ⟨⟨⟨rfl, h2⟩, h3⟩, h4⟩ := h
    exact sf_dkeys g (sE m g k h4) (gloB_ok k h2) (plnE_ok h3)
  | .cut m lo hi, e, sc, X, fx, g, k, h => by
    simp only [ckF] at h
    split at h <;> first | cases h; done | skip
    simp only [Bool.and_eq_true] at h
    obtain ⟨⟨h2, h3⟩, h4⟩ := h
    exact sf_cut (sE m g k h2) (sO lo g k h3) (sO hi g k h4)
theorem sQ : ∀ (m : Sq) {e : Expr} {sc : Scope} {X : Cx} {fx : Fx}, Gd X nm c.nms C G c.fl fx → Cok X c sc → ckQ c m sc e = true → PE X e (tQ X.K nm fx (evQ C G m))
  | .ex m, e, sc, X, fx, g, k, h => by
    simp only [ckQ] at h
    exact sq_ex (sE m g k h)
  | .fr m, e, sc, X, fx, g, k, h => by
    simp only [ckQ] at h
    exact sq_fr (sF m g k h)
theorem sI : ∀ (m : It) (t : Expr) {e : Expr} {sc : Scope} {X : Cx} {fx : Fx}, Gd X nm c.nms C G c.fl fx → Cok X c sc → ckI c m sc t e = true → PI X t e (tI X.K nm fx (evI C G m))
  | .sq m, t, e, sc, X, fx, g, k, h => by
    simp only [ckI] at h
    exact si_sq (sQ m g k h)
  | .str m, t, e, sc, X, fx, g, k, h => by
    simp only [ckI] at h
    exact si_str (sE m g k h)
  | .rng m, t, e, sc, X, fx, g, k, h => by
    simp only [ckI] at h
    split at h <;> first | cases h; done | skip
    simp only [Bool.and_eq_true, decide_eq_true_eq] at h
    obtain ⟨⟨⟨rfl, h2⟩, h3⟩, h4⟩ := h
    exact si_rng g (sE m g k h4) (gloB_ok k h2) (plnE_ok h3)
  | .rng2 m n, t, e, sc, X, fx, g, k, h => by
    simp only [ckI] at h
    split at h <;> first | cases h; done | skip
    simp only [Bool.and_eq_true, decide_eq_true_eq] at h
    obtain ⟨⟨⟨⟨⟨rfl, h2⟩, h3⟩, h4⟩, h5⟩, h6⟩ := h
    exact si_rng2 g (sE m g k h5) (sE n g k h6) (gloB_ok k h2) (by rw [plnE_ok h3, plnE_ok h4] <;> rfl) (plnE_ok h4)
  | .zip p q, t, e, sc, X, fx, g, k, h => by
    simp only [ckI] at h
    split at h <;> first | cases h; done | skip
    simp only [Bool.and_eq_true, decide_eq_true_eq] at h
    obtain ⟨⟨⟨⟨⟨rfl, h2⟩, h3⟩, h4⟩, h5⟩, h6⟩ := h
    exact si_zip g (sQ p g k h5) (sQ q g k h6) (gloB_ok k h2) (plnE_ok h3) (plnE_ok h4)
  | .enum q, t, e, sc, X, fx, g, k, h => by
    simp only [ckI] at h
    split at h <;> first | cases h; done | skip
    simp only [Bool.and_eq_true, decide_eq_true_eq] at h
    obtain ⟨⟨⟨rfl, h2⟩, h3⟩, h4⟩ := h
    exact si_enum g (sQ q g k h4) (gloB_ok k h2) (plnE_ok h3)
end
end
end Pl

set_option maxHeartbeats 4000000
/-! The check of statements, and that it is sound. -/
namespace Pl
open PySem L2
def isLocB (sc : Scope) (x : Str) : Bool := decide (sc.names.lookup x = some .local)
/-- an own list made anew in place -/
def lcAsg (sc : Scope) (x : Str) (px : Pos) (e : Expr) : Bool := match e with
  | .ListComp _ [_] scope pos => (px.line == pos.line) && isLocB sc x && !(scope.names.any fun (n, k) => n == x && (k == .local || k == .cell))
  | _ => false
/-- a tuple of values is made, not swapped: some name is not local -/
def nswB (sc : Scope) (ts : List Expr) (e : Expr) : Bool := match e with
  | .Tuple .. => (ts.filterMap fun e => match e with
    | .Name id pos => if sc.names.lookup id == some .local && pos.line == (ts.head?.map (·.pos.line)).getD 0 then some id else none
    | _ => none).length != ts.length
  | _ => false
theorem nsw_ok {ts : List Expr} {k : Nat} {p : Pos} {e : Expr} {env : Env} (h : nswB env.scope ts e = true) : swappedStores [.Tuple ts k p] e env = pure none := by
  unfold nswB at h
  split at h
  · rename_i vs k2 p2
    unfold swappedStores
    dsimp only
    split
    · rfl
    · split
      · rfl
      · refine if_pos ?_
        have h2 : ((ts.filterMap fun e => match e with
          | .Name id pos => if env.kindOf id == some .local && pos.line == (ts.head?.map (·.pos.line)).getD 0 then some id else none
          | _ => none).length != ts.length) = true := h
        exact Bool.or_eq_true_iff.mpr (.inl h2)
  · cases h
theorem nsw_sole {t e : Expr} {sc : Scope} {ts : List Expr} {l : Nat} {env : Env} (h : nswB sc ts e = true) : swapsWithSole [t] e l env = pure false := by
  unfold nswB at h
  split at h
  · unfold swapsWithSole
    rfl
  · cases h
section
variable (c : Cc)
mutual
def ckS : Sm → Scope → Stmt → Bool
  | .asg i m, sc, s => match s with
    | .Assign [.Name x p] e pos => decide (c.N[i]? = some x) && locB sc x && ckE c m sc e && (match m with
      | .new (.lc _ _ _ _ _ _) => lcAsg sc x p e
      | .frn (.lc _ _ _ _ _ _) => lcAsg sc x p e
      | _ => plnC e)
    | _ => false
  | .asgT is m, sc, s => match s with
    | .Assign [.Tuple es k p] e _ => (plnT e || nswB sc es e) && ckG c.N sc is true (.Tuple es k p) && ckE c m sc e
    | _ => false
  | .setI o i m, sc, s => match s with
    | .Assign [.Subscript x y _] e _ => plnX y && plnT e && ckE c o sc x && ckE c i sc y && ckE c m sc e
    | _ => false
  | .augI op o i m, sc, s => match s with
    | .AugAssign (.Subscript x y _) q e _ => decide (q = op.op) && plnX y && ckE c o sc x && ckE c i sc y && ckE c m sc e
    | _ => false
  | .aug op i m, sc, s => match s with
    | .AugAssign (.Name x _) q e _ => decide (q = op.op) && decide (c.N[i]? = some x) && locB sc x && ckE c m sc e
    | _ => false
  | .expr m, sc, s => match s with
    | .Expr e _ => plnC e && ckE c m sc e
    | _ => false
  | .if_ t a b, sc, s => match s with
    | .If e x y _ => ckT c t sc e && ckSs a sc x && ckSs b sc y
    | _ => false
  | .for_ tg pat it b, sc, s => match s with
    | .For t e x [] _ => plnF e && ckG c.N sc tg pat t && ckI c it sc t e && ckSs b sc x
    | _ => false
  | .while_ t b, sc, s => match s with
    | .While e x [] _ => ckT c t sc e && ckSs b sc x
    | _ => false
  | .ret m, sc, s => match s with
    | .Return (some e) _ => ckE c m sc e
    | _ => false
  | .retN, _, s => match s with
    | .Return none _ => true
    | _ => false
  | .pass, _, s => match s with
    | .Pass _ => true
    | _ => false
  | .brk, _, s => match s with
    | .Break _ => true
    | _ => false
  | .cont, _, s => match s with
    | .Continue _ => true
    | _ => false
  | .no, _, _ => true
  | .dput o i m, sc, s => match s with
    | .Assign [.Subscript x y _] e _ => plnC e && ckE c o sc x && ckE c i sc y && ckE c m sc e
    | _ => false
  | .setA c' o f m, sc, s => match s with
    | .Assign [.Attribute x a _] e _ => decide (a = f) && c.fl.fld c' f && plnC e && ckE c o sc x && ckE c m sc e
    | _ => false
  | .dput2 o i p j m, sc, s => match s with
    | .Assign [.Subscript x y _, .Subscript u v _] e _ => plnX y && plnX v && ckE c o sc x && ckE c i sc y && ckE c p sc u && ckE c j sc v && ckE c m sc e
    | _ => false
  | .par2 i j a b, sc, s => match s with
    | .Assign [.Tuple [.Name x px, .Name y py] _ _] (.Tuple [u, v] _ _) _ => decide (c.N[i]? = some x) && decide (c.N[j]? = some y) && decide (i ≠ j) && swB sc x y px py u v && plnE u && plnE v && ckE c a sc u && ckE c b sc v
    | _ => false
def ckSs : List Sm → Scope → List Stmt → Bool
  | [], _, es => es.isEmpty
  | m :: ms, sc, es => match es with
    | e :: r => ckS m sc e && ckSs ms sc r
    | [] => false
end
end
section
variable {nm : Nat → Addr} {c : Cc} {C : Nat → List D → Sto → R D} {G : Nat → Option D}
/-- what a def's body is walked under -/
structure Gds (X : Cx) (nm : Nat → Addr) (c : Cc) (C : Nat → List D → Sto → R D) (G : Nat → Option D) (fx : Fx) (sc : Scope) : Prop where
  g : Gd X nm c.nms C G c.fl fx
  k : Cok X c sc
  st : StOk X sc
  hp : PassesOwn (model X.prog X.w) X.A X.env X.xe
theorem plnT_c {e : Expr} (h : plnT e = true) : plnC e = true := by
  cases e <;> first | rfl | cases h
theorem sole_ok {t e : Expr} {l : Nat} {env : Env} (h : plnT e = true) : swapsWithSole [t] e l env = pure false := by
  unfold swapsWithSole
  exact plnC_ok (plnT_c h)
theorem swapped_tup {es : List Expr} {k : Nat} {p : Pos} {e : Expr} {env : Env} (h : plnT e = true) : swappedStores [.Tuple es k p] e env = pure none := by
  unfold swappedStores
  cases e <;> first | rfl | cases h
theorem swapped_sub {x y : Expr} {p : Pos} {e : Expr} {env : Env} : swappedStores [.Subscript x y p] e env = pure none := by
  unfold swappedStores
  rfl
theorem assign_sub {o i : Expr} {p : Pos} {env : Env} (h : plnX i = true) (v : Value) : assign (.Subscript o i p) env v = (do
      let ov ← holding [v] (eval o env)
      let iv ← holding [v, ov] (eval i env)
      standAt p
      holding [v, ov, iv] (setItem ov iv v)
      release [v, ov, iv] []) := by
  cases i <;> first | rfl | cases h
theorem augStore_pln {i : Expr} (h : plnX i = true) (ov iv new : Value) : augStore i ov iv new = (do holding [new, ov, iv] (setItem ov iv new); release [new, ov, iv] []; pure .next) := by
  cases i <;> first | rfl | cases h
mutual
theorem sS : ∀ (m : Sm) {s : Stmt} {sc : Scope} {X : Cx} {fx : Fx}, Gds X nm c C G fx sc → ckS c m sc s = true → PS X s (tS X.K nm fx (ex C G m))
  | .asg i m, s, sc, X, fx, k, h => by
    simp only [ckS] at h
    split at h <;> first | cases h; done | skip
    rename_i x p e pos
    simp only [Bool.and_eq_true, decide_eq_true_eq] at h
    obtain ⟨⟨⟨h1, h2⟩, h3⟩, h4⟩ := h
    obtain ⟨l1, l2⟩ := k.st x h2
    have hi : X.N[i]? = some x := by rw [k.k.N]; exact h1
    split at h4
    · rename_i own tg pat it cond elt
      unfold lcAsg at h4
      split at h4 <;> first | cases h4; done | skip
      rename_i elt' gen scope lpos
      simp only [Bool.and_eq_true, isLocB, decide_eq_true_eq, Bool.not_eq_true'] at h4
      obtain ⟨⟨a1, a2⟩, a3⟩ := h4
      simp only [ckE, ckF] at h3
      split at h3 <;> first | cases h3; done | skip
      rename_i x' t i' ifs a scope' p' heq
      cases heq
      simp only [Bool.and_eq_true, decide_eq_true_eq] at h3
      obtain ⟨⟨⟨⟨⟨⟨⟨rfl, h1⟩, h2⟩, h3⟩, h4⟩, h5⟩, h6⟩, h7⟩ := h3
      have ok := blkOk_by h1
      have go : ∀ (s : Shared) (H : Hp) (d : Addr) (cl : List (Str × Addr)) (fp : List Addr), Cok (X.blk s H scope (compEnvC scope cl d X.env) fp) c (relS scope sc) := fun s H d cl fp => by
        refine k.k.blk s H _ fp ?_ ok.kind
        rw [← k.k.se]
        rfl
      refine ss_asgLc k.g hi (by rw [k.k.se]; exact a2) (sw_true (by rw [k.k.se]; exact k.k.kd) (by rw [k.k.se]; exact a2) a1 a3) (sI it t k.g k.k h5) (by rw [k.k.N, k.k.se]; exact ok) (fun s H d cl fp => ?_) (fun s H d cl fp => sTo cond (k.g.blk s H scope _ fp) (go s H d cl fp) h6) (fun s H d cl fp => sE elt (k.g.blk s H scope _ fp) (go s H d cl fp) h7) (fun j hj => ?_) (plnF_ok h2)
      · exact ckG_ok (k.g.blk s H scope _ fp).calm (go s H d cl fp).N (k.g.blk s H scope _ fp).nd (StOk.blk (sc := X.env.scope) s H _ fp rfl) h3
      · have := List.all_eq_true.mp h4 j hj
        simpa using this
    · rename_i own tg pat it cond elt
      unfold lcAsg at h4
      split at h4 <;> first | cases h4; done | skip
      rename_i elt' gen scope lpos
      simp only [Bool.and_eq_true, isLocB, decide_eq_true_eq, Bool.not_eq_true'] at h4
      obtain ⟨⟨a1, a2⟩, a3⟩ := h4
      simp only [ckE, ckF] at h3
      split at h3 <;> first | cases h3; done | skip
      rename_i x' t i' ifs a scope' p' heq
      cases heq
      simp only [Bool.and_eq_true, decide_eq_true_eq] at h3
      obtain ⟨⟨⟨⟨⟨⟨⟨rfl, h1⟩, h2⟩, h3⟩, h4⟩, h5⟩, h6⟩, h7⟩ := h3
      have ok := blkOk_by h1
      have go : ∀ (s : Shared) (H : Hp) (d : Addr) (cl : List (Str × Addr)) (fp : List Addr), Cok (X.blk s H scope (compEnvC scope cl d X.env) fp) c (relS scope sc) := fun s H d cl fp => by
        refine k.k.blk s H _ fp ?_ ok.kind
        rw [← k.k.se]
        rfl
      refine ss_asgLcF k.g hi (by rw [k.k.se]; exact a2) (sw_true (by rw [k.k.se]; exact k.k.kd) (by rw [k.k.se]; exact a2) a1 a3) (sI it t k.g k.k h5) (by rw [k.k.N, k.k.se]; exact ok) (fun s H d cl fp => ?_) (fun s H d cl fp => sTo cond (k.g.blk s H scope _ fp) (go s H d cl fp) h6) (fun s H d cl fp => sE elt (k.g.blk s H scope _ fp) (go s H d cl fp) h7) (fun j hj => ?_) (plnF_ok h2)
      · exact ckG_ok (k.g.blk s H scope _ fp).calm (go s H d cl fp).N (k.g.blk s H scope _ fp).nd (StOk.blk (sc := X.env.scope) s H _ fp rfl) h3
      · have := List.all_eq_true.mp h4 j hj
        simpa using this
    · exact ss_asg k.g hi l1 l2 (sE m k.g k.k h3) (plnC_ok h4)
  | .asgT is m, s, sc, X, fx, k, h => by
    simp only [ckS] at h
    split at h <;> first | cases h; done | skip
    simp only [Bool.and_eq_true, Bool.or_eq_true] at h
    obtain ⟨⟨h1, h2⟩, h3⟩ := h
    rcases h1 with h1 | h1
    · exact ss_asgT k.g (sE m k.g k.k h3) (ckG_ok k.g.calm k.k.N k.g.nd k.st h2) (sole_ok h1) (swapped_tup h1) rfl
    · exact ss_asgT k.g (sE m k.g k.k h3) (ckG_ok k.g.calm k.k.N k.g.nd k.st h2) (nsw_sole h1) (nsw_ok (by rw [k.k.se]; exact h1)) rfl
  | .setI o i m, s, sc, X, fx, k, h => by
    simp only [ckS] at h
    split at h <;> first | cases h; done | skip
    simp only [Bool.and_eq_true] at h
    obtain ⟨⟨⟨⟨h1, h2⟩, h3⟩, h4⟩, h5⟩ := h
    exact ss_setI (sE m k.g k.k h5) (sE o k.g k.k h3) (sE i k.g k.k h4) (assign_sub h1) (sole_ok h2) swapped_sub rfl
  | .augI op o i m, s, sc, X, fx, k, h => by
    simp only [ckS] at h
    split at h <;> first | cases h; done | skip
    simp only [Bool.and_eq_true, decide_eq_true_eq] at h
    obtain ⟨⟨⟨⟨rfl, h2⟩, h3⟩, h4⟩, h5⟩ := h
    exact ss_augI (sE o k.g k.k h3) (sE i k.g k.k h4) (sE m k.g k.k h5) (augStore_pln h2)
  | .aug op i m, s, sc, X, fx, k, h => by
    simp only [ckS] at h
    split at h <;> first | cases h; done | skip
    simp only [Bool.and_eq_true, decide_eq_true_eq] at h
    obtain ⟨⟨⟨rfl, h2⟩, h3⟩, h4⟩ := h
    obtain ⟨l1, l2⟩ := k.st _ h3
    exact ss_aug k.g (by rw [k.k.N]; exact h2) l1 l2 (sE m k.g k.k h4)
  | .expr m, s, sc, X, fx, k, h => by
    simp only [ckS] at h
    split at h <;> first | cases h; done | skip
    simp only [Bool.and_eq_true] at h
    exact ss_expr (sE m k.g k.k h.2) (plnC_ok h.1)
  | .if_ t a b, s, sc, X, fx, k, h => by
    simp only [ckS] at h
    split at h <;> first | cases h; done | skip
    simp only [Bool.and_eq_true] at h
    exact ss_if (sT t k.g k.k h.1.1).1 (sSs a k h.1.2) (sSs b k h.2)
  | .for_ tg pat it b, s, sc, X, fx, k, h => by
    simp only [ckS] at h
    split at h <;> first | cases h; done | skip
    simp only [Bool.and_eq_true] at h
    obtain ⟨⟨⟨h1, h2⟩, h3⟩, h4⟩ := h
    exact ss_for k.g k.hp (sI it _ k.g k.k h3) (ckG_ok k.g.calm k.k.N k.g.nd k.st h2) (sSs b k h4) (plnF_ok h1)
  | .while_ t b, s, sc, X, fx, k, h => by
    simp only [ckS] at h
    split at h <;> first | cases h; done | skip
    simp only [Bool.and_eq_true] at h
    exact ss_while k.hp (sT t k.g k.k h.1).1 (sSs b k h.2)
  | .ret m, s, sc, X, fx, k, h => by
    simp only [ckS] at h
    split at h <;> first | cases h; done | skip
    exact ss_ret (sE m k.g k.k h)
  | .retN, s, sc, X, fx, k, h => by
    simp only [ckS] at h
    split at h <;> first | cases h; done | skip
    exact ss_retN
  | .pass, s, sc, X, fx, k, h => by
    simp only [ckS] at h
    split at h <;> first | cases h; done | skip
    exact ss_pass
  | .brk, s, sc, X, fx, k, h => by
    simp only [ckS] at h
    split at h <;> first | cases h; done | skip
    exact ss_brk
  | .cont, s, sc, X, fx, k, h => by
    simp only [ckS] at h
    split at h <;> first | cases h; done | skip
    exact ss_cont
  | .no, s, sc, X, fx, k, h => ss_no
  | .dput o i m, s, sc, X, fx, k, h => by
    simp only [ckS] at h
    split at h <;> first | cases h; done | skip
    simp only [Bool.and_eq_true] at h
    obtain ⟨⟨⟨h2, h3⟩, h4⟩, h5⟩ := h
    exact ss_dput k.g (sE m k.g k.k h5) (sE o k.g k.k h3) (sE i k.g k.k h4) (plnC_ok h2)
  | .setA c' o f m, s, sc, X, fx, k, h => by
    simp only [ckS] at h
    split at h <;> first | cases h; done | skip
    simp only [Bool.and_eq_true, decide_eq_true_eq] at h
    obtain ⟨⟨⟨⟨rfl, h2⟩, h3⟩, h4⟩, h5⟩ := h
    exact ss_setA k.g h2 (sE m k.g k.k h5) (sE o k.g k.k h4) (plnC_ok h3)
  | .dput2 o i p j m, s, sc, X, fx, k, h => by
    simp only [ckS] at h
    split at h <;> first | cases h; done | skip
    simp only [Bool.and_eq_true] at h
    obtain ⟨⟨⟨⟨⟨⟨h1, h2⟩, h3⟩, h4⟩, h5⟩, h6⟩, h7⟩ := h
    exact ss_dput2 k.g (sE m k.g k.k h7) (sE o k.g k.k h3) (sE i k.g k.k h4) (sE p k.g k.k h5) (sE j k.g k.k h6) (assign_sub h1) (assign_sub h2)
  | .par2 i j a b, s, sc, X, fx, k, h => by
    simp only [ckS] at h
    split at h <;> first | cases h; done | skip
    simp only [Bool.and_eq_true, decide_eq_true_eq] at h
    obtain ⟨⟨⟨⟨⟨⟨⟨h1, h2⟩, h3⟩, h4⟩, h5⟩, h6⟩, h7⟩, h8⟩ := h
    exact ss_par2 k.g (by rw [k.k.N]; exact h1) (by rw [k.k.N]; exact h2) h3 (by rw [k.k.se]; exact k.k.kd) (by rw [k.k.se]; exact h4) (sa_cons (sE a k.g k.k h7) (sa_cons (sE b k.g k.k h8) sa_nil (plnE_ok h6)) (plnE_ok h5))
theorem sSs : ∀ (ms : List Sm) {es : List Stmt} {sc : Scope} {X : Cx} {fx : Fx}, Gds X nm c C G fx sc → ckSs c ms sc es = true → PSs X es (tS X.K nm fx (exs C G ms))
  | [], es, sc, X, fx, k, h => by
    simp only [ckSs, List.isEmpty_iff] at h
    subst h
    exact sss_nil
  | m :: ms, es, sc, X, fx, k, h => by
    simp only [ckSs] at h
    split at h <;> first | cases h; done | skip
    simp only [Bool.and_eq_true] at h
    exact sss_cons (sS m k h.1) (sSs ms k h.2)
end
end
end Pl

set_option maxHeartbeats 4000000
/-! The text's defs: each does what Pl's run says. -/
namespace Pl
open PySem L2
/-- a def: cls, the class's number if it is a method; dfl, its defaults -/
structure Dn where
  nm : Str
  qual : Str
  cls : Option Nat
  dfl : List He.Dv
  st : Stmt
  ps : List Str
  N : List Str
  fn : Fn
def natB : NameKind → Bool
  | .free => false
  | _ => true
def Dn.ok (d : Dn) (nms : Nat → Str) (fl : Fl) : Bool :=
  (match (defScope d.st).kind with | .function => true | _ => false) && (!(defScope d.st).isCoroutine) && (!(defScope d.st).isGenerator) && decide d.N.Nodup && decide (d.N.take d.ps.length = d.ps) && (d.ps.all fun x => locB (defScope d.st) x) &&
    ((defScope d.st).names.all fun y => natB y.2) && decide (d.fn.ps = d.ps.length) && decide (d.fn.sl = d.N.length) && ckSs ⟨d.N, nms, fl⟩ d.fn.body (defScope d.st) (defBody d.st)
structure Dn.Ok (d : Dn) (nms : Nat → Str) (fl : Fl) : Prop where
  sc : FnScope d.N d.ps (defScope d.st)
  ps : d.fn.ps = d.ps.length
  sl : d.fn.sl = d.N.length
  ck : ckSs ⟨d.N, nms, fl⟩ d.fn.body (defScope d.st) (defBody d.st) = true
theorem Dn.ok_ok {d : Dn} {nms : Nat → Str} {fl : Fl} (h : d.ok nms fl = true) : d.Ok nms fl := by
  unfold Dn.ok at h
  simp only [Bool.and_eq_true, Bool.not_eq_true', decide_eq_true_eq, List.all_eq_true] at h
  obtain ⟨⟨⟨⟨⟨⟨⟨⟨⟨h1, h2⟩, h3⟩, h4⟩, h5⟩, h6⟩, h7⟩, h8⟩, h9⟩, h10⟩ := h
  refine ⟨⟨?_, h2, h3, h4, h5, fun x hx => locB_ok (h6 x hx), fun y hy e => ?_⟩, h8, h9, h10⟩
  · split at h1
    · assumption
    · cases h1
  · have := h7 y hy
    rw [e] at this
    cases this
/-- a table of texts -/
abbrev DT := Nat → Option Dn
def DT.tab (t : DT) : Tab := fun f => (t f).map fun d => d.fn
/-- what stands behind the top -/
structure Wd (K : PySem.W.Frag) (mg : Str → Option Value) (nm : Nat → Addr) (nms : Nat → Str) (t : DT) (fl : Fl) (G : Nat → Option D) : Prop where
  fns : ∀ f d, t f = some d → d.cls = none → ∃ a fd dvs, mg (nms f) = some (.ref a) ∧ FunD K d.nm d.qual (defArgs d.st) (defBody d.st) (defScope d.st) dvs [] a fd ∧ Binds K fd d.ps [] ∧ (∀ n ks perm, fl.kw f n ks perm = true → KBn K fd d.ps n ks (fun us ws => permL perm (us ++ ws)) (fun us ws => permL perm (us ++ ws))) ∧ a = nm f
  on : ∀ f, fl.on f = true → ∃ d, t f = some d ∧ d.cls = none
  ok : ∀ f d, t f = some d → d.Ok nms fl
  glo : ∀ n d, G n = some d → ∃ u v, mg (nms n) = some u ∧ RelV v u ∧ ∀ ι H, Rep K nm ι H d v
  cls : ∀ c f, fl.fld c f = true → Cls K (nm c) ∧ NoAttr K (nm c) f
  mth : ∀ c m g, fl.mth c m g = true → ∃ d a fd dvs, t g = some d ∧ Cls K (nm c) ∧ Meth K (nm c) m a ∧ FunD K d.nm d.qual (defArgs d.st) (defBody d.st) (defScope d.st) dvs [] a fd ∧ Binds K fd d.ps []
  mkc : ∀ c g, fl.mkc c g = true → ∃ d a fd dvs, t g = some d ∧ mg (nms c) = some (.ref (nm c)) ∧ Mk K (nm c) a ∧ FunD K d.nm d.qual (defArgs d.st) (defBody d.st) (defScope d.st) dvs [] a fd ∧ Binds K fd d.ps []
  blt : ∀ x ∈ blts, mg x = none
section
variable {K : PySem.W.Frag} {nm : Nat → Addr} {nms : Nat → Str}
theorem start_len {N : List Str} {vs : List V} (h : vs.length ≤ N.length) : (L2.start N vs).length = N.length := by
  unfold L2.start
  rw [List.length_append, List.length_map, List.length_replicate]
  omega
theorem start_at {N : List Str} {vs : List V} {ι : Io} {H : Hp} {ds : List D} {n m : Nat} (r : Reps K nm ι H ds vs) (hl : ds.length = n) (hm : m = N.length) : ∀ (i : Nat) (d : D), (startD n m ds)[i]? = some (some d) → ∃ v, (L2.start N vs)[i]? = some (some v) ∧ Rep K nm ι H d v := by
  intro i d h
  unfold startD at h
  unfold L2.start
  by_cases hi : i < ds.length
  · rw [List.getElem?_append_left (by simpa using hi), List.getElem?_map] at h
    cases q : ds[i]? with
    | none => rw [q] at h; cases h
    | some e =>
      rw [q] at h
      cases h
      obtain ⟨v, h1, h2⟩ := r.get q
      refine ⟨v, ?_, h2⟩
      rw [List.getElem?_append_left (by simpa [r.length] using hi), List.getElem?_map, h1]
      rfl
  · rw [List.getElem?_append_right (by simpa using hi), List.getElem?_replicate] at h
    split at h <;> cases h
end
section
variable {P : Program} {w : World} {K : PySem.W.Frag} {mg : Str → Option Value} {base : Heap} {nm : Nat → Addr} {nms : Nat → Str} {t : DT} {fl : Fl} {G : Nat → Option D}
theorem def_ok (W : Wd K mg nm nms t fl G) : ∀ (k f : Nat) (d : Dn), t f = some d → ∀ (a : Addr) (fd : FuncData) (dvs : List V), FunD K d.nm d.qual (defArgs d.st) (defBody d.st) (defScope d.st) dvs [] a fd → FnOk P w K mg base (L2.CX P w) (2 * k) a fd d.ps (spF K nm nms (run t.tab G k f))
  | 0, f, d, hd, a, fd, dvs, F => by
    refine ⟨fun vs H Q E h => ?_, fun A outer s H args us vs Q E hr he hb hv h => ?_⟩
    · obtain ⟨ι, S, ds, _, _, z⟩ := h
      exact z.elim
    · obtain ⟨ι, S, ds, _, _, z⟩ := h
      exact z.elim
  | k + 1, f, d, hd, a, fd, dvs, F => by
    have ok := W.ok f d hd
    have hT : t.tab f = some d.fn := by unfold DT.tab; rw [hd]; rfl
    show FnOk P w K mg base (L2.CX P w) (2 * k + 1 + 1) a fd d.ps _
    refine F.ok ok.sc (fun vs H Q E h => ?_) (fun cdv A outer s H vs Q E hr h => ?_)
    · obtain ⟨ι, S, ds, _, r, z⟩ := h
      simp only [run, hT, runF] at z
      split at z
      · rename_i hl
        rw [r.length, hl, ok.ps]
      · exact z.elim
    · obtain ⟨ι, S, ds, rel, r, z⟩ := h
      simp only [run, hT, runF] at z
      split at z
      · rename_i hl
        refine ⟨tS K nm ⟨ι, H, fun x S' => ∀ cls d ι' H', Rel K nm ι' S' H' → Ex' ι H ι' H' → ExcR K nm nms ι' H' x cls d → E cls d H'⟩ (exs (run t.tab G k) G d.fn.body), ?_, ?_⟩
        · refine sSs (c := ⟨d.N, nms, fl⟩) d.fn.body ⟨⟨rfl, ok.sc.nd, ?_, W.glo, fun f' hf' => ?_, W.cls, fun c m g hg => ?_, fun c g hg => ?_, W.blt, ?_⟩, ⟨rfl, rfl, ok.sc.kind⟩, fun x hx => ⟨locB_ok hx, .inl rfl⟩, ?_⟩ ok.ck
          · have := hr.un
            show (A.deeper (PyProof.Rows.envOfC d.qual (defScope d.st) s.heap.objs.size a cdv)).units + 70 < cLine
            omega
          · obtain ⟨d', hd', hn'⟩ := W.on f' hf'
            obtain ⟨a', fd', dvs', h1, F', h4, h5⟩ := W.fns f' d' hd' hn'
            exact ⟨a', fd', d'.ps, 2 * k, h1, F'.kp, def_ok W k f' d' hd' a' fd' dvs' F', hr.mono (by omega), h4, h5⟩
          · obtain ⟨d', a', fd', dvs', hd', h1, h2, F', h4⟩ := W.mth c m g hg
            exact ⟨a', fd', d'.ps, 2 * k, h1, h2, def_ok W k g d' hd' a' fd' dvs' F', hr.mono (by omega), h4⟩
          · obtain ⟨d', a', fd', dvs', hd', h1, h2, F', h4⟩ := W.mkc c g hg
            exact ⟨a', fd', d'.ps, 2 * k, h1, h2, def_ok W k g d' hd' a' fd' dvs' F', hr, h4⟩
          · refine passes_call (W := fun cls d _ H => E cls d H) (takes_of rfl rfl rfl rfl) fun cls dd σ H' h => ?_
            obtain ⟨x, S', ι', hx, r', e', xr⟩ := h
            exact hx cls dd ι' H' r' e' xr
          · exact passes_of rfl
        · have hpl : vs.length ≤ d.N.length := by
            have := congrArg List.length ok.sc.pre
            rw [List.length_take] at this
            rw [r.length, hl, ok.ps]
            omega
          refine ⟨ι, S, startD d.fn.ps d.fn.sl ds, ⟨rel, .refl, ?_, start_at r hl ok.sl⟩, ?_⟩
          · rw [start_len hpl]
            unfold startD
            rw [List.length_append, List.length_map, List.length_replicate, ok.sl]
            rw [r.length, hl] at hpl
            omega
          · revert z
            cases exs (run t.tab G k) G d.fn.body (startD d.fn.ps d.fn.sl ds) S with
            | next ρ S1 => exact fun z σ ι' H' st e => z _ ι' H' st.rel e rfl
            | brk ρ S1 => exact fun z => z.elim
            | cont ρ S1 => exact fun z => z.elim
            | ret x S1 => exact fun z => z
            | exc x S1 => exact fun z => z
            | bad => exact fun z => z
      · exact z.elim
end
end Pl

set_option maxHeartbeats 4000000
/-! From the head's facts to the law. -/
namespace Pl
open PySem L2
def BindP (d : Dn) : Prop := ∀ (kV doc pm : Value) (an : Option Addr) (cdv ct : Value) (us : List Value), us.length = d.ps.length → bindArgs (PySem.W.fnOf d.nm d.qual (defArgs d.st) (defBody d.st) (defScope d.st) .none kV doc pm an cdv ct) ⟨us, []⟩ = pure (d.ps.zip us)
/-- .. of a def with defaults, all given -/
def BindD (d : Dn) : Prop := ∀ (T : Addr) (kV doc pm : Value) (an : Option Addr) (cdv ct : Value) (us its : List Value), us.length = d.ps.length → its.length = d.dfl.length →
  ∃ k, bindArgs (PySem.W.fnOf d.nm d.qual (defArgs d.st) (defBody d.st) (defScope d.st) (.ref T) kV doc pm an cdv ct) ⟨us, []⟩ = seqItems? (.ref T) >>= k ∧ k (some its.toArray) = pure (d.ps.zip (us ++ its.drop d.dfl.length))
def BindA (d : Dn) : Prop := (d.dfl = [] ∧ BindP d) ∨ (d.dfl ≠ [] ∧ BindD d)
def KwP (d : Dn) (n : Nat) (ks : List Str) (perm : List Nat) : Prop := d.dfl = [] ∧ ∀ (kV doc pm : Value) (an : Option Addr) (cdv ct : Value) (us ws : List Value), us.length = n → ws.length = ks.length →
  bindArgs (PySem.W.fnOf d.nm d.qual (defArgs d.st) (defBody d.st) (defScope d.st) .none kV doc pm an cdv ct) ⟨us, ks.zip ws⟩ = pure (d.ps.zip (permL perm (us ++ ws)))
/-- a law's text: its defs, names, calls by name, constants; the classes' fields, methods, inits -/
structure Lw where
  dl : List (Nat × Dn)
  nl : List (Nat × Str)
  kwl : List (Nat × Nat × List Str × List Nat)
  gvl : List (Nat × D)
  fls : List (Nat × Str) := []
  mls : List (Nat × Str × Nat) := []
  ils : List (Nat × Nat) := []
namespace Lw
variable (L : Lw)
def nms (n : Nat) : Str := match L.nl.find? fun q => q.1 == n with
  | some q => q.2
  | none => ""
def tab : DT := fun f => (L.dl.find? fun q => q.1 == f).map (·.2)
def plain (f : Nat) : Bool := match L.tab f with
  | some d => d.cls.isNone
  | none => false
def flo : Fl := ⟨fun f => L.plain f, fun f n ks perm => L.kwl.any fun q => decide (q = (f, n, ks, perm)), fun c f => L.fls.any fun q => decide (q = (c, f)), fun c m g => L.mls.any fun q => decide (q = (c, m, g)), fun c g => L.ils.any fun q => decide (q = (c, g))⟩
def G (n : Nat) : Option D := match L.gvl.find? fun q => q.1 == n with
  | some q => some q.2
  | none => none
def gFa (q : Nat × D) : He.Fa := match q.2 with
  | .int i => .int (L.nms q.1) i
  | .str x => .str (L.nms q.1) (strOf x)
  | .gl _ => .glo (L.nms q.1)
  | _ => .free (L.nms q.1)
def gOk (q : Nat × D) : Bool := match q.2 with
  | .int i => true
  | .str x => true
  | .gl m => decide (m = q.1)
  | _ => false
def at_ (i : Nat) (d : Dn) : Str × Option Str := match d.cls with
  | none => (L.nms i, none)
  | some c => (L.nms c, some d.nm)
def dd (i : Nat) (d : Dn) : He.DefD := ⟨L.at_ i d, d.nm, d.qual, defArgs d.st, defBody d.st, defScope d.st, d.dfl, []⟩
def fn : List He.DefD := L.dl.map fun q => L.dd q.1 q.2
def fa : List He.Fa := (L.dl.filterMap fun q => if L.plain q.1 then some (He.Fa.glo (L.nms q.1)) else none) ++ blts.map .free ++ L.gvl.map L.gFa ++ L.fls.map (fun q => .cls (L.nms q.1)) ++ L.fls.map (fun q => .noat (L.nms q.1) q.2) ++ L.mls.map (fun q => .cls (L.nms q.1)) ++ L.mls.map (fun q => .meth (L.nms q.1) q.2.1) ++ L.ils.map (fun q => .glo (L.nms q.1)) ++ L.ils.map (fun q => .mkr (L.nms q.1))
/-- the methods' defs are those of their classes -/
def mOk : Bool := (L.mls.all fun q => match L.tab q.2.2 with | some d => decide (d.cls = some q.1) && decide (d.nm = q.2.1) | none => false) && (L.ils.all fun q => match L.tab q.2 with | some d => decide (d.cls = some q.1) && decide (d.nm = ("__init__" : Str)) | none => false)
structure Ok : Prop where
  ok : (L.dl.all fun q => q.2.ok L.nms L.flo) = true
  g : L.gvl.all gOk = true
  m : L.mOk = true
  bd : ∀ (i : Nat) (p : Nat × Dn), L.dl[i]? = some p → BindA p.2
  kb : ∀ (i : Nat) (p : Nat × Dn), L.dl[i]? = some p → ∀ q ∈ L.kwl, q.1 = p.1 → KwP p.2 q.2.1 q.2.2.1 q.2.2.2
end Lw
section
variable {L : Lw} {K : PySem.W.Frag} {h : Heap} {mg : Str → Option Value}
theorem permL_vals {xs : List V} {us : List Value} (r : Vals xs us) : ∀ perm : List Nat, Vals (permL perm xs) (permL perm us)
  | [] => .nil
  | i :: is => by
    have ih := permL_vals r is
    unfold permL at ih ⊢
    rw [List.filterMap_cons, List.filterMap_cons]
    cases q : xs[i]? with
    | none =>
      have : us[i]? = none := by
        rw [List.getElem?_eq_none_iff] at q ⊢
        rw [← r.length]
        exact q
      rw [this]
      exact ih
    | some d =>
      obtain ⟨v, h1, h2⟩ := r.get q
      rw [h1]
      exact .cons h2 ih
theorem vals_app {xs ys : List V} {us ws : List Value} (r : Vals xs us) (r2 : Vals ys ws) : Vals (xs ++ ys) (us ++ ws) := r.append r2
theorem fact_of {fa : List He.Fa} {fn : List He.DefD} (c : He.SaysD fa fn K) {f : He.Fa} (hf : f ∈ fa) : f.ok K = true := by
  have c1 := (He.ba (show ((fa.all fun f => f.ok K) && fn.all fun d => d.ok K) = true from congrArg (fun z : He.AlD => z.1) c)).1
  exact List.all_eq_true.mp c1 f hf
theorem tab_mem {f : Nat} {d : Dn} (h : L.tab f = some d) : (f, d) ∈ L.dl := by
  unfold Lw.tab at h
  simp only [Option.map_eq_some_iff] at h
  obtain ⟨⟨g, e⟩, h1, rfl⟩ := h
  have h2 := List.find?_some h1
  have h3 := List.mem_of_find?_eq_some h1
  have : g = f := by simpa using h2
  rw [← this]
  exact h3
theorem tab_at {f : Nat} {d : Dn} (h : L.tab f = some d) : ∃ i : Nat, L.dl[i]? = some (f, d) := List.getElem?_of_mem (tab_mem h)
theorem funD_of (c : He.SaysD L.fa L.fn K) {f : Nat} {d : Dn} (hd : L.tab f = some d) : ∃ fd, FunD K d.nm d.qual (defArgs d.st) (defBody d.st) (defScope d.st) (d.dfl.map (He.Dv.v K)) [] (He.fAd K (L.at_ f d)) fd := by
  have hm : L.dd f d ∈ L.fn := by
    unfold Lw.fn
    exact List.mem_map.mpr ⟨(f, d), tab_mem hd, rfl⟩
  obtain ⟨i, hi⟩ := List.getElem?_of_mem hm
  exact c.def_ i hi
theorem binds_of (o : L.Ok) {f : Nat} {d : Dn} (hd : L.tab f = some d) {a : Addr} {fd : FuncData} (F : FunD K d.nm d.qual (defArgs d.st) (defBody d.st) (defScope d.st) (d.dfl.map (He.Dv.v K)) [] a fd) : Binds K fd d.ps [] := by
  obtain ⟨i, hi⟩ := tab_at hd
  rcases o.bd i (f, d) hi with ⟨h1, h2⟩ | ⟨h1, h2⟩
  · rw [h1] at F
    exact FunD.bindsN F h2
  · obtain ⟨ds, hv, hb⟩ := FunD.binds1 (ps := d.ps) F d.ps.length d.dfl.length (by simpa using h1) (by simp) (fun T kV doc pm an cdv ct us its l1 l2 => h2 T kV doc pm an cdv ct us its l1 (by simpa using l2))
    have : ds = [] := by
      have e : (d.dfl.map (He.Dv.v K)).drop d.dfl.length = [] := List.drop_of_length_le (by simp)
      rw [e] at hv
      cases hv
      rfl
    rw [this] at hb
    exact hb
theorem glo_fa {i : Nat} (h : L.plain i = true) : He.Fa.glo (L.nms i) ∈ L.fa := by
  have hl : ∃ d, L.tab i = some d := by
    unfold Lw.plain at h
    split at h
    · rename_i d hd
      exact ⟨d, hd⟩
    · cases h
  obtain ⟨d, hd⟩ := hl
  unfold Lw.fa
  simp only [List.mem_append]
  exact .inl (.inl (.inl (.inl (.inl (.inl (.inl (.inl (List.mem_filterMap.mpr ⟨(i, d), tab_mem hd, by rw [if_pos h]⟩))))))))
theorem plain_of {f : Nat} {d : Dn} (hd : L.tab f = some d) (hn : d.cls = none) : L.plain f = true := by
  unfold Lw.plain
  rw [hd]
  show d.cls.isNone = true
  rw [hn]
  rfl
theorem wd_of (o : L.Ok) (X : K.In h) (Gm : h.Ns mainGlobals mg) (c : He.SaysD L.fa L.fn K) : Wd K mg (fun n => He.ga K (L.nms n)) L.nms L.tab L.flo L.G := by
  have hmo : (L.mls.all fun q => match L.tab q.2.2 with | some d => decide (d.cls = some q.1) && decide (d.nm = q.2.1) | none => false) = true ∧ (L.ils.all fun q => match L.tab q.2 with | some d => decide (d.cls = some q.1) && decide (d.nm = ("__init__" : Str)) | none => false) = true := by
    have := o.m
    unfold Lw.mOk at this
    exact Bool.and_eq_true_iff.mp this
  refine ⟨fun f d hd hn => ?_, fun f hf => ?_, fun f d hd => ?_, fun n d hn => ?_, fun cc f hf => ?_, fun cc m g hg => ?_, fun cc g hg => ?_, fun x hx => ?_⟩
  · have hd' : L.tab f = some d := hd
    obtain ⟨fd, F⟩ := funD_of c hd'
    have ha : He.fAd K (L.at_ f d) = He.ga K (L.nms f) := by
      unfold Lw.at_
      rw [hn]
      rfl
    rw [ha] at F
    refine ⟨_, fd, _, He.glo_ok X Gm (fact_of c (glo_fa (plain_of hd' hn))), F, binds_of o hd' F, fun n ks perm hk => ?_, rfl⟩
    unfold Lw.flo at hk
    simp only [List.any_eq_true, decide_eq_true_eq] at hk
    obtain ⟨q, hq, rfl⟩ := hk
    obtain ⟨i, hi⟩ := tab_at hd'
    obtain ⟨k0, kp⟩ := o.kb i _ hi _ hq rfl
    rw [k0] at F
    obtain ⟨oc, od, dV, kV, doc, pm, an, cdv, ct, osl, rfl, lk, hcd, hD, hK⟩ := F.ex
    rcases hD with ⟨_, rfl⟩ | ⟨e, _⟩
    · exact ⟨fun s us ws _ l1 l2 => .of_eq (kp kV doc pm an cdv ct us ws l1 l2), fun r1 r2 => permL_vals (vals_app r1 r2) perm⟩
    · exact absurd rfl e
  · have hf' : L.plain f = true := hf
    unfold Lw.plain at hf'
    split at hf'
    · rename_i d hd
      exact ⟨d, hd, by simpa using hf'⟩
    · cases hf'
  · exact Dn.ok_ok (List.all_eq_true.mp o.ok (f, d) (tab_mem hd))
  · unfold Lw.G at hn
    split at hn <;> first | cases hn; done | skip
    rename_i q hq
    cases hn
    have hm := List.mem_of_find?_eq_some hq
    have he : q.1 = n := by simpa using List.find?_some hq
    obtain ⟨m, d⟩ := q
    obtain rfl : m = n := he
    have ok := List.all_eq_true.mp o.g _ hm
    have fk := fact_of c (f := L.gFa (m, d)) (by
      unfold Lw.fa
      simp only [List.mem_append]
      exact .inl (.inl (.inl (.inl (.inl (.inl (.inr (List.mem_map.mpr ⟨_, hm, rfl⟩))))))))
    cases d <;> first | cases ok; done | skip
    · rename_i i
      obtain ⟨t, ht⟩ := He.int_ok X Gm fk
      exact ⟨_, .int i, ht, ⟨t, rfl⟩, fun ι H => rfl⟩
    · rename_i x
      obtain ⟨t, ht⟩ := He.str_ok X Gm fk
      exact ⟨_, .str (strOf x), ht, ⟨t, rfl⟩, fun ι H => rfl⟩
    · rename_i n'
      obtain rfl : n' = m := of_decide_eq_true ok
      exact ⟨_, .ref _, He.glo_ok X Gm fk, rfl, fun ι H => rfl⟩
  · unfold Lw.flo at hf
    simp only [List.any_eq_true, decide_eq_true_eq] at hf
    obtain ⟨q, hq, rfl⟩ := hf
    refine ⟨He.cls_ok (fact_of c (f := .cls (L.nms cc)) ?_), He.noat_ok (fact_of c (f := .noat (L.nms cc) f) ?_)⟩ <;> (unfold Lw.fa; simp only [List.mem_append])
    · exact .inl (.inl (.inl (.inl (.inl (.inr (List.mem_map.mpr ⟨_, hq, rfl⟩))))))
    · exact .inl (.inl (.inl (.inl (.inr (List.mem_map.mpr ⟨_, hq, rfl⟩)))))
  · unfold Lw.flo at hg
    simp only [List.any_eq_true, decide_eq_true_eq] at hg
    obtain ⟨q, hq, rfl⟩ := hg
    have hm := List.all_eq_true.mp hmo.1 _ hq
    simp only at hm
    split at hm
    · rename_i d hd
      simp only [Bool.and_eq_true, decide_eq_true_eq] at hm
      obtain ⟨fd, F⟩ := funD_of c hd
      have ha : He.fAd K (L.at_ g d) = He.ma K (He.ga K (L.nms cc)) m := by
        unfold Lw.at_
        rw [hm.1, hm.2]
        rfl
      rw [ha] at F
      refine ⟨d, _, fd, _, hd, He.cls_ok (fact_of c (f := .cls (L.nms cc)) ?_), He.meth_ok (fact_of c (f := .meth (L.nms cc) m) ?_), F, binds_of o hd F⟩ <;> (unfold Lw.fa; simp only [List.mem_append])
      · exact .inl (.inl (.inl (.inr (List.mem_map.mpr ⟨_, hq, rfl⟩))))
      · exact .inl (.inl (.inr (List.mem_map.mpr ⟨_, hq, rfl⟩)))
    · cases hm
  · unfold Lw.flo at hg
    simp only [List.any_eq_true, decide_eq_true_eq] at hg
    obtain ⟨q, hq, rfl⟩ := hg
    have hm := List.all_eq_true.mp hmo.2 _ hq
    simp only at hm
    split at hm
    · rename_i d hd
      simp only [Bool.and_eq_true, decide_eq_true_eq] at hm
      obtain ⟨fd, F⟩ := funD_of c hd
      have ha : He.fAd K (L.at_ g d) = He.ma K (He.ga K (L.nms cc)) "__init__" := by
        unfold Lw.at_
        rw [hm.1, hm.2]
        rfl
      rw [ha] at F
      refine ⟨d, _, fd, _, hd, He.glo_ok X Gm (fact_of c (f := .glo (L.nms cc)) ?_), He.mkr_ok (fact_of c (f := .mkr (L.nms cc)) ?_), F, binds_of o hd F⟩ <;> (unfold Lw.fa; simp only [List.mem_append])
      · exact .inl (.inr (List.mem_map.mpr ⟨_, hq, rfl⟩))
      · exact .inr (List.mem_map.mpr ⟨_, hq, rfl⟩)
    · cases hm
  · refine He.free_ok X Gm (fact_of c ?_)
    unfold Lw.fa
    simp only [List.mem_append]
    exact .inl (.inl (.inl (.inl (.inl (.inl (.inl (.inr (List.mem_map.mpr ⟨x, hx, rfl⟩))))))))
/-- nothing is let out -/
theorem FnOk.still {P : Program} {w : World} {base : Heap} {k : Nat} {f : Addr} {fd : FuncData} {ps : List Str} {sp : Sp} (F : FnOk P w K mg base (L2.CX P w) k f fd ps sp) : FnOk P w K mg base CX0 k f fd ps (fun vs H Q E => E = E0 ∧ sp vs H Q E) :=
  ⟨fun vs H Q E h => F.len vs H Q E h.2, fun A outer s H args us vs Q E hr he hb hv h => by
    obtain ⟨rfl, h⟩ := h
    refine codeAny_mono (F.run A outer s H args us vs Q E0 hr he hb hv h) fun r s' hq => ?_
    cases r with
    | error e =>
      obtain ⟨_, _, _, _, _, _, _, _, _, _, _, _, z⟩ := hq
      exact z.elim
    | ok fl => cases fl <;> exact hq⟩
theorem ints_reps {nm : Nat → Addr} {ι : Io} {H : Hp} : ∀ ns : List Int, Reps K nm ι H (ns.map D.int) (ns.map V.int)
  | [] => rfl
  | n :: ns => ⟨_, _, rfl, rfl, ints_reps ns⟩
theorem sqf_of {H : Hp} {a : Addr} {xs : List V} (o : Only H) (h : SqL K H a xs) : SqF K H a xs := by
  rcases h with (h | ⟨b, h⟩) | h
  · rcases o a with q | ⟨b, ys, q⟩ <;> (rw [q] at h; cases h)
  · exact .inl ⟨b, h⟩
  · exact .inr (.inr h)
/-- what a law has to do -/
def Lw.Law (L : Lw) (k f : Nat) : Prop := ∀ ns : List Int, ns.length ≤ 63 → ∃ S', run L.tab.tab L.G k f [.scr (ns.map D.int)] [] = .ok (.bl true) S'
theorem law_fn {P : Program} {w : World} {f : Nat} {d : Dn} {x : Str} (o : L.Ok) (X : K.In h) (Gm : h.Ns mainGlobals mg) (c : He.SaysD L.fa L.fn K) (hd : L.tab f = some d) (hn : d.cls = none) (hdf : d.dfl = []) (hp : d.ps = [x]) (k : Nat) (lw : L.Law k f) {fa : Addr} (hfa : mg (L.nms f) = some (.ref fa)) :
    ∃ fd sp, (∀ (s : Shared) (u : Value), BindsTo s fd ⟨[u], []⟩ [(x, u)]) ∧ (∀ (H : Hp) (a : Addr) (ns : List Int), ns.length ≤ 63 → Only H → SqL K H a (ns.map V.int) → sp [.ref a] H (fun v _ => v = .bl true) E0) ∧
      ∀ base : Heap, K.In base → base.Ns mainGlobals mg → FnOk P w K mg base CX0 (2 * k) fa fd [x] sp := by
  have W := wd_of o X Gm c
  obtain ⟨fd, F⟩ := funD_of c hd
  have ha : He.fAd K (L.at_ f d) = He.ga K (L.nms f) := by
    unfold Lw.at_
    rw [hn]
    rfl
  rw [ha] at F
  have hm2 := He.glo_ok X Gm (fact_of c (glo_fa (plain_of hd hn)))
  have ea : He.ga K (L.nms f) = fa := by
    rw [hm2] at hfa
    cases hfa
    rfl
  rw [ea] at F
  have F0 : FunD K d.nm d.qual (defArgs d.st) (defBody d.st) (defScope d.st) [] [] fa fd := by
    rw [hdf] at F
    exact F
  have hbp : BindP d := by
    obtain ⟨i, hi⟩ := tab_at hd
    rcases o.bd i (f, d) hi with ⟨_, h⟩ | ⟨h, _⟩
    · exact h
    · exact absurd hdf h
  refine ⟨fd, fun vs H Q E => E = E0 ∧ spF K (fun n => He.ga K (L.nms n)) L.nms (run L.tab.tab L.G k f) vs H Q E, fun s u => ?_, fun H a ns hn oh hS => ⟨rfl, ⟨[], []⟩, [], [.scr (ns.map D.int)], ⟨rfl, List.nodup_nil, (fun _ h => nomatch h), (fun _ h => nomatch h), (fun i a o h => by cases h)⟩, ?_, ?_⟩, fun base hK hG => ?_⟩
  · have := FunD.bindsA (ps := d.ps) F0 hbp s [u] (by rw [hp] <;> rfl)
    rw [hp] at this
    exact this
  · exact ⟨_, _, rfl, ⟨a, _, rfl, sqf_of oh hS, ints_reps ns⟩, rfl⟩
  · obtain ⟨S', e⟩ := lw ns hn
    rw [e]
    exact fun v ι' H' r' e' p => by cases p; rfl
  · have := FnOk.still (def_ok (P := P) (w := w) (base := base) W k f d hd _ fd _ F0)
    rw [hp] at this
    exact this
end
end Pl

set_option maxHeartbeats 4000000
/-! Plain laws about Pl's run: what is wanted of results, loops, scoped calls. -/
namespace Pl
open PySem L2
def alph : List Nat := [97, 98, 99, 100, 101, 102, 103, 104, 105, 106, 107, 108, 109, 110, 111, 112, 113, 114, 115, 116, 117, 118, 119, 120, 121, 122]
def no2 {α β : Type} : α → β → Prop := fun _ _ => False
def Wr {α : Type} (r : R α) (P : α → Sto → Prop) (X : Xc → Sto → Prop) : Prop := match r with
  | .ok a S => P a S
  | .exc x S => X x S
  | .bad => False
structure Ed where
  nx : Slo → Sto → Prop
  bk : Slo → Sto → Prop
  ct : Slo → Sto → Prop
  rt : D → Sto → Prop
  xc : Xc → Sto → Prop
def Wt (o : O) (E : Ed) : Prop := match o with
  | .next ρ S => E.nx ρ S
  | .brk ρ S => E.bk ρ S
  | .cont ρ S => E.ct ρ S
  | .ret d S => E.rt d S
  | .exc x S => E.xc x S
  | .bad => False
section
variable {α β : Type} {r : R α} {P P' : α → Sto → Prop} {X X' : Xc → Sto → Prop} {o : O} {E : Ed} {ρ : Slo} {S : Sto}
@[simp] theorem wr_ok {a : α} {S : Sto} : Wr (.ok a S) P X = P a S := rfl
@[simp] theorem wr_exc {x : Xc} {S : Sto} : Wr (.exc x S : R α) P X = X x S := rfl
@[simp] theorem wr_bad : Wr (.bad : R α) P X = False := rfl
theorem wr_bind {f : α → Sto → R β} {P : β → Sto → Prop} : Wr (r.bind f) P X = Wr r (fun a S => Wr (f a S) P X) X := by cases r <;> rfl
theorem wr_nox : Wr r.nox P X = Wr r P no2 := by cases r <;> rfl
theorem Wr.mono (h : Wr r P X) (k : ∀ a S, P a S → P' a S) (k2 : ∀ x S, X x S → X' x S) : Wr r P' X' := by
  cases r with
  | ok a S => exact k a S h
  | exc x S => exact k2 x S h
  | bad => exact h
/-- nothing is raised -/
theorem Wr.go (h : Wr r P no2) (k : ∀ a S, P a S → P' a S) : Wr r P' X := h.mono k fun _ _ z => z.elim
theorem Wr.ok (h : Wr r P no2) : ∃ a S, r = .ok a S ∧ P a S := by
  cases r with
  | ok a S => exact ⟨a, S, rfl, h⟩
  | exc x S => exact h.elim
  | bad => exact h.elim
theorem wr_eq {a : α} {S : Sto} (h : r = .ok a S) : Wr r (fun b S' => b = a ∧ S' = S) X := by rw [h]; exact ⟨rfl, rfl⟩
theorem eq_wr {a : α} {S : Sto} (h : Wr r (fun b S' => b = a ∧ S' = S) no2) : r = .ok a S := by
  obtain ⟨b, S', h1, rfl, rfl⟩ := h.ok
  exact h1
@[simp] theorem wt_next : Wt (.next ρ S) E = E.nx ρ S := rfl
@[simp] theorem wt_brk : Wt (.brk ρ S) E = E.bk ρ S := rfl
@[simp] theorem wt_cont : Wt (.cont ρ S) E = E.ct ρ S := rfl
@[simp] theorem wt_ret {d : D} : Wt (.ret d S) E = E.rt d S := rfl
@[simp] theorem wt_exc {x : Xc} : Wt (.exc x S) E = E.xc x S := rfl
@[simp] theorem wt_bad : Wt .bad E = False := rfl
theorem wt_o {f : α → Sto → O} : Wt (r.o f) E = Wr r (fun a S => Wt (f a S) E) E.xc := by cases r <;> rfl
theorem wt_seq {f : Slo → Sto → O} : Wt (o.seq f) E = Wt o ⟨fun ρ S => Wt (f ρ S) E, E.bk, E.ct, E.rt, E.xc⟩ := by cases o <;> rfl
theorem wt_turn {f : Slo → Sto → O} : Wt (o.turn f) E = Wt o ⟨fun ρ S => Wt (f ρ S) E, E.nx, fun ρ S => Wt (f ρ S) E, E.rt, E.xc⟩ := by cases o <;> rfl
theorem wr_ret {P : D → Sto → Prop} : Wr o.ret? P X = Wt o ⟨fun _ S => P .non S, no2, no2, P, X⟩ := by cases o <;> rfl
theorem Wt.mono {E' : Ed} (h : Wt o E) (h1 : ∀ ρ S, E.nx ρ S → E'.nx ρ S) (h2 : ∀ ρ S, E.bk ρ S → E'.bk ρ S) (h3 : ∀ ρ S, E.ct ρ S → E'.ct ρ S) (h4 : ∀ d S, E.rt d S → E'.rt d S) (h5 : ∀ x S, E.xc x S → E'.xc x S) : Wt o E' := by
  cases o with
  | next ρ S => exact h1 _ _ h
  | brk ρ S => exact h2 _ _ h
  | cont ρ S => exact h3 _ _ h
  | ret d S => exact h4 _ _ h
  | exc x S => exact h5 _ _ h
  | bad => exact h
end
section
variable {T : Tab} {G : Nat → Option D} {C : Nat → List D → Sto → R D}
theorem run_succ {k f : Nat} {ds : List D} {S : Sto} {fn : Fn} (h : T f = some fn) : run T G (k + 1) f ds S = runF (run T G k) G fn ds S := by
  show (match T f with | some fn => _ | none => _) = _
  rw [h]
theorem wr_run {k f : Nat} {ds : List D} {S : Sto} {fn : Fn} {P : D → Sto → Prop} {X : Xc → Sto → Prop} (h : T f = some fn) (hl : ds.length = fn.ps) : Wr (run T G (k + 1) f ds S) P X = Wt (exs (run T G k) G fn.body (startD fn.ps fn.sl ds) S) ⟨fun _ S => P .non S, no2, no2, P, X⟩ := by
  rw [run_succ h]
  unfold runF
  rw [if_pos hl, wr_ret]
theorem wt_cons {s : Sm} {r : List Sm} {ρ : Slo} {S : Sto} {E : Ed} : Wt (exs C G (s :: r) ρ S) E = Wt (ex C G s ρ S) ⟨fun ρ S => Wt (exs C G r ρ S) E, E.bk, E.ct, E.rt, E.xc⟩ := by
  simp only [exs]
  rw [wt_seq]
theorem wt_nil {ρ : Slo} {S : Sto} {E : Ed} : Wt (exs C G [] ρ S) E = E.nx ρ S := rfl
/-! ### loops by an invariant -/
theorem for_at {g tg : List Nat} {pat : Bool} {f : Slo → Sto → O} {E : Ed} (I : Nat → Slo → Sto → Prop) : ∀ (ds : List D) (k : Nat) (ρ : Slo) (S : Sto), I k ρ S →
    (∀ i d ρ S, ds[i]? = some d → I (k + i) ρ S → ∃ ρ1, bindTg tg pat d ρ = some ρ1 ∧ Wt (f ρ1 S) ⟨I (k + i + 1), E.nx, I (k + i + 1), E.rt, E.xc⟩) →
    (∀ i j ρ S ρ' S', I i ρ S → I j ρ' S' → ∀ n ∈ g, S'[n]? = S[n]?) → (∀ ρ S, I (k + ds.length) ρ S → E.nx ρ S) → Wt (forL g tg pat f ds ρ S) E
  | [], k, ρ, S, h0, hs, hg, he => he ρ S h0
  | d :: r, k, ρ, S, h0, hs, hg, he => by
    obtain ⟨ρ1, h1, h2⟩ := hs 0 d ρ S rfl h0
    unfold forL
    rw [h1]
    show Wt ((f ρ1 S).turn _) E
    rw [wt_turn]
    have go : ∀ ρ' S', I (k + 1) ρ' S' → Wt (grdO g S S' (forL g tg pat f r ρ' S')) E := fun ρ' S' h' => by
      have e : grdO g S S' (forL g tg pat f r ρ' S') = forL g tg pat f r ρ' S' := by
        unfold grdO
        rw [if_pos fun n hn => hg _ _ _ _ _ _ h0 h' n hn]
      rw [e]
      refine for_at I r (k + 1) ρ' S' h' (fun i d ρ S hd hI => ?_) hg fun ρ S hI => he ρ S (by rw [List.length_cons, Nat.add_comm r.length 1, ← Nat.add_assoc]; exact hI)
      have := hs (i + 1) d ρ S (by simpa using hd) (by rw [Nat.add_comm i 1, ← Nat.add_assoc]; exact hI)
      rw [Nat.add_comm i 1, ← Nat.add_assoc] at this
      exact this
    exact h2.mono go (fun _ _ h => h) go (fun _ _ h => h) (fun _ _ h => h)
theorem for_inv {g tg : List Nat} {pat : Bool} {f : Slo → Sto → O} {E : Ed} {ds : List D} {ρ : Slo} {S : Sto} (I : Nat → Slo → Sto → Prop) (h0 : I 0 ρ S)
    (hs : ∀ i d ρ S, ds[i]? = some d → I i ρ S → ∃ ρ1, bindTg tg pat d ρ = some ρ1 ∧ Wt (f ρ1 S) ⟨I (i + 1), E.nx, I (i + 1), E.rt, E.xc⟩)
    (hg : ∀ i j ρ S ρ' S', I i ρ S → I j ρ' S' → ∀ n ∈ g, S'[n]? = S[n]?) (he : ∀ ρ S, I ds.length ρ S → E.nx ρ S) : Wt (forL g tg pat f ds ρ S) E :=
  for_at I ds 0 ρ S h0 (fun i d ρ S hd hI => by rw [Nat.zero_add] at hI ⊢; exact hs i d ρ S hd hI) hg fun ρ S hI => he ρ S (by rw [Nat.zero_add] at hI; exact hI)
/-- over a list that is frozen -/
theorem for_fro {tg : List Nat} {pat : Bool} {f : Slo → Sto → O} {E : Ed} {ds : List D} {ρ : Slo} {S : Sto} (I : Nat → Slo → Sto → Prop) (h0 : I 0 ρ S)
    (hs : ∀ i d ρ S, ds[i]? = some d → I i ρ S → ∃ ρ1, bindTg tg pat d ρ = some ρ1 ∧ Wt (f ρ1 S) ⟨I (i + 1), E.nx, I (i + 1), E.rt, E.xc⟩)
    (he : ∀ ρ S, I ds.length ρ S → E.nx ρ S) : Wt (forL [] tg pat f ds ρ S) E := for_inv I h0 hs (fun _ _ _ _ _ _ _ _ n hn => nomatch hn) he
theorem for_map {α : Type} {tg : List Nat} {pat : Bool} {f : Slo → Sto → O} {E : Ed} {as : List α} {e : α → D} {ρ : Slo} {S : Sto} (I : Nat → Slo → Sto → Prop) (h0 : I 0 ρ S)
    (hs : ∀ i a ρ S, as[i]? = some a → I i ρ S → ∃ ρ1, bindTg tg pat (e a) ρ = some ρ1 ∧ Wt (f ρ1 S) ⟨I (i + 1), E.nx, I (i + 1), E.rt, E.xc⟩)
    (he : ∀ ρ S, I as.length ρ S → E.nx ρ S) : Wt (forL [] tg pat f (as.map e) ρ S) E := for_fro I h0 (fun i d ρ S hd hI => by
      rw [List.getElem?_map] at hd
      cases q : as[i]? with
      | none => rw [q] at hd; cases hd
      | some a => rw [q] at hd; cases hd; exact hs i a ρ S q hI) fun ρ S hI => he ρ S (by rw [List.length_map] at hI; exact hI)
theorem lc_at {g : List Nat} {f : D → Sto → R (Option D)} {P : List D → Sto → Prop} {X : Xc → Sto → Prop} (I : Nat → List D → Sto → Prop) : ∀ (ds : List D) (k : Nat) (acc : List D) (S : Sto), I k acc S →
    (∀ i d acc S, ds[i]? = some d → I (k + i) acc S → Wr (f d S) (fun o S' => I (k + i + 1) (match o with | some x => acc ++ [x] | none => acc) S') no2) →
    (∀ i j a S a' S', I i a S → I j a' S' → ∀ n ∈ g, S'[n]? = S[n]?) → (∀ acc S, I (k + ds.length) acc S → P acc S) → Wr (lcL g f ds S) (fun xs S' => P (acc ++ xs) S') X
  | [], k, acc, S, h0, hs, hg, he => by
    show P (acc ++ []) S
    rw [List.append_nil]
    exact he acc S h0
  | d :: r, k, acc, S, h0, hs, hg, he => by
    have h1 := hs 0 d acc S rfl h0
    unfold lcL
    rw [wr_bind, wr_nox]
    refine h1.mono (fun o S' h' => ?_) fun _ _ z => z
    have e : ∀ q : R (List D), grd g S S' q = q := fun q => by
      unfold grd
      rw [if_pos fun n hn => hg _ _ _ _ _ _ h0 h' n hn]
    rw [e, wr_bind]
    have ih := lc_at (P := P) (X := X) I r (k + 1) _ S' h' (fun i d acc S hd hI => by
      have := hs (i + 1) d acc S (by simpa using hd) (by rw [Nat.add_comm i 1, ← Nat.add_assoc]; exact hI)
      rw [Nat.add_comm i 1, ← Nat.add_assoc] at this
      exact this) hg fun acc S hI => he acc S (by rw [List.length_cons, Nat.add_comm r.length 1, ← Nat.add_assoc]; exact hI)
    refine ih.mono (fun xs S2 hp => ?_) fun _ _ z => z
    cases o with
    | none => exact hp
    | some x =>
      show P (acc ++ (x :: xs)) S2
      have : acc ++ (x :: xs) = (acc ++ [x]) ++ xs := by simp
      rw [this]
      exact hp
theorem lc_inv {g : List Nat} {f : D → Sto → R (Option D)} {P : List D → Sto → Prop} {X : Xc → Sto → Prop} {ds : List D} {S : Sto} (I : Nat → List D → Sto → Prop) (h0 : I 0 [] S)
    (hs : ∀ i d acc S, ds[i]? = some d → I i acc S → Wr (f d S) (fun o S' => I (i + 1) (match o with | some x => acc ++ [x] | none => acc) S') no2)
    (hg : ∀ i j a S a' S', I i a S → I j a' S' → ∀ n ∈ g, S'[n]? = S[n]?) (he : ∀ acc S, I ds.length acc S → P acc S) : Wr (lcL g f ds S) P X := by
  have := lc_at (P := P) (X := X) I ds 0 [] S h0 (fun i d ρ S hd hI => by rw [Nat.zero_add] at hI ⊢; exact hs i d ρ S hd hI) hg fun ρ S hI => he ρ S (by rw [Nat.zero_add] at hI; exact hI)
  simpa using this
/-- a comprehension that changes nothing -/
theorem lc_pure {g : List Nat} {f : D → Sto → R (Option D)} {S : Sto} (h : D → Option D) : ∀ ds : List D, (∀ d ∈ ds, f d S = .ok (h d) S) → lcL g f ds S = .ok (ds.filterMap h) S
  | [], _ => rfl
  | d :: r, q => by
    unfold lcL
    rw [q d (List.mem_cons_self ..)]
    show grd g S S _ = _
    rw [grd_same, lc_pure h r fun d hd => q d (List.mem_cons_of_mem _ hd), List.filterMap_cons]
    cases h d <;> rfl
theorem lc_map {α : Type} {g : List Nat} {f : D → Sto → R (Option D)} {S : Sto} {e : α → D} (h : α → D) : ∀ as : List α, (∀ a ∈ as, f (e a) S = .ok (some (h a)) S) → lcL g f (as.map e) S = .ok (as.map h) S
  | [], _ => rfl
  | a :: r, q => by
    rw [List.map_cons]
    unfold lcL
    rw [q a (List.mem_cons_self ..)]
    show grd g S S _ = _
    rw [grd_same, lc_map h r fun d hd => q d (List.mem_cons_of_mem _ hd)]
    rfl
/-- .. with a test -/
theorem lc_filter {α : Type} {g : List Nat} {f : D → Sto → R (Option D)} {S : Sto} {e : α → D} (p : α → Bool) (h : α → D) : ∀ as : List α, (∀ a ∈ as, f (e a) S = .ok (if p a then some (h a) else none) S) → lcL g f (as.map e) S = .ok ((as.filter p).map h) S
  | [], _ => rfl
  | a :: r, q => by
    rw [List.map_cons]
    unfold lcL
    rw [q a (List.mem_cons_self ..)]
    show grd g S S _ = _
    rw [grd_same, lc_filter p h r fun d hd => q d (List.mem_cons_of_mem _ hd), List.filter_cons]
    cases p a <;> rfl
/-- what comes of a walk: each turn leads from a store that is good to one that is -/
theorem lc_all {g : List Nat} {f : D → Sto → R (Option D)} {ds : List D} {S : Sto} {P : List D → Sto → Prop} {X : Xc → Sto → Prop} (Q : D → Prop) (J : Sto → Prop) (h0 : J S) (hg : g = [])
    (hs : ∀ d S, d ∈ ds → J S → Wr (f d S) (fun o S' => J S' ∧ ∃ x, o = some x ∧ Q x) no2) (he : ∀ xs S, xs.length = ds.length → (∀ x ∈ xs, Q x) → J S → P xs S) : Wr (lcL g f ds S) P X := by
  subst hg
  refine lc_inv (fun i acc S => acc.length = i ∧ (∀ x ∈ acc, Q x) ∧ J S) ⟨rfl, (fun _ z => nomatch z), h0⟩ (fun i d acc S hd ⟨h1, h2, h3⟩ => ?_) (fun _ _ _ _ _ _ _ _ n hn => nomatch hn) fun acc S ⟨h1, h2, h3⟩ => he acc S h1 h2 h3
  refine (hs d S (List.mem_of_getElem? hd) h3).mono (fun o S' ⟨j, x, e, q⟩ => ?_) fun _ _ z => z
  subst e
  refine ⟨by simp [h1], fun y hy => ?_, j⟩
  rcases List.mem_append.mp hy with hy | hy
  · exact h2 y hy
  · have : y = x := by simpa using hy
    rw [this]
    exact q
/-! ### what is closed -/
theorem closedL_all {m : Nat} : ∀ {ds : List D}, closedL m ds = ds.all (closedD m)
  | [] => rfl
  | d :: ds => by rw [List.all_cons, ← closedL_all]; rfl
theorem closedL_map {α : Type} {m : Nat} {e : α → D} {as : List α} (h : ∀ a, closedD m (e a) = true) : closedL m (as.map e) = true := by
  rw [closedL_all, List.all_eq_true]
  intro d hd
  obtain ⟨a, _, rfl⟩ := List.mem_map.mp hd
  exact h a
mutual
theorem closed_mono {m n : Nat} (hmn : m ≤ n) : ∀ {d : D}, closedD m d = true → closedD n d = true
  | .ref i, h => decide_eq_true (Nat.lt_of_lt_of_le (of_decide_eq_true h) hmn)
  | .tup ds, h => closedL_mono hmn (ds := ds) h
  | .fro ds, h => closedL_mono hmn (ds := ds) h
  | .frd _ ds, h => closedL_mono hmn (ds := ds) h
  | .fri _ _ ds, h => closedL_mono hmn (ds := ds) h
  | .scr ds, h => closedL_mono hmn (ds := ds) h
  | .non, _ => rfl | .bl _, _ => rfl | .int _, _ => rfl | .str _, _ => rfl | .gl _, _ => rfl
theorem closedL_mono {m n : Nat} (hmn : m ≤ n) : ∀ {ds : List D}, closedL m ds = true → closedL n ds = true
  | [], _ => rfl
  | d :: ds, h => by
    obtain ⟨h1, h2⟩ := Bool.and_eq_true_iff.mp h
    exact Bool.and_eq_true_iff.mpr ⟨closed_mono hmn h1, closedL_mono hmn h2⟩
end
theorem frz_cl {S : Sto} {m k : Nat} {d : D} (h : closedD m d = true) : frz S m k d = some d := by
  cases k <;> simp only [frz, h, if_true]
theorem mapO_some {α β : Type} {f : α → Option β} {h : α → β} : ∀ {as : List α}, (∀ a ∈ as, f a = some (h a)) → mapO f as = some (as.map h)
  | [], _ => rfl
  | a :: as, q => by
    rw [List.map_cons]
    unfold mapO
    rw [q a (List.mem_cons_self ..), mapO_some fun x hx => q x (List.mem_cons_of_mem _ hx)]
theorem mapO_cl {S : Sto} {m k : Nat} {ds : List D} (h : closedL m ds = true) : mapO (frz S m k) ds = some ds := by
  have := mapO_some (f := frz S m k) (h := id) (as := ds) fun a ha => frz_cl (by rw [closedL_all, List.all_eq_true] at h; exact h a ha)
  rwa [List.map_id] at this
theorem frz_lst {S : Sto} {m k n : Nat} {ds : List D} (hn : m ≤ n) (hs : S[n]? = some (.lst ds)) (h : closedL m ds = true) : frz S m (k + 1) (.ref n) = some (.fro ds) := by
  have : closedD m (.ref n) = false := decide_eq_false (by omega)
  simp only [frz, this, hs, mapO_cl h, Option.map_some, Bool.false_eq_true, if_false]
theorem frz_dct {S : Sto} {m k n : Nat} {kvs : List (L2.Key × D)} {ds : List D} (hn : m ≤ n) (hs : S[n]? = some (.dct kvs)) (h : mapO (frz S m k) (kvs.map (·.2)) = some ds) : frz S m (k + 1) (.ref n) = some (.frd (kvs.map (·.1)) ds) := by
  have : closedD m (.ref n) = false := decide_eq_false (by omega)
  simp only [frz, this, hs, h, Option.map_some, Bool.false_eq_true, if_false]
theorem frz_ins {S : Sto} {m k n c : Nat} {fs : List (Str × D)} {ds : List D} (hn : m ≤ n) (hs : S[n]? = some (.ins c fs)) (h : mapO (frz S m k) (fs.map (·.2)) = some ds) : frz S m (k + 1) (.ref n) = some (.fri c (fs.map (·.1)) ds) := by
  have : closedD m (.ref n) = false := decide_eq_false (by omega)
  simp only [frz, this, hs, h, Option.map_some, Bool.false_eq_true, if_false]
/-! ### scoped calls -/
/-- a call that leans on nothing -/
theorem scp_pure {r : List D → Sto → R D} {ds : List D} {S S1 : Sto} {v d : D} (hc : closedL 0 ds = true) (h : r ds [] = .ok v S1) (hf : frz S1 0 6 v = some d) : scp 0 false r ds S = .ok d S := by
  unfold scp
  simp [List.take_zero, closedS, hc, h, hf]
theorem scp_pureX {r : List D → Sto → R D} {ds : List D} {S S1 : Sto} {x : Xc} (hc : closedL 0 ds = true) (h : r ds [] = .exc x S1) (hf : plainX x = true) : scp 0 false r ds S = .exc x S := by
  unfold scp
  simp [List.take_zero, closedS, hc, h, hf]
theorem pur {k i : Nat} {fn : Fn} {ds : List D} {d : D} (hT : T i = some fn) (hl : ds.length = fn.ps) (hc : closedL 0 ds = true)
    (h : Wt (exs (run T G k) G fn.body (startD fn.ps fn.sl ds) []) ⟨fun _ S1 => frz S1 0 6 .non = some d, no2, no2, fun v S1 => frz S1 0 6 v = some d, no2⟩) (S : Sto) : scp 0 false (run T G (k + 1) i) ds S = .ok d S := by
  have h2 : Wr (run T G (k + 1) i ds []) (fun v S1 => frz S1 0 6 v = some d) no2 := by
    rw [wr_run hT hl]
    exact h
  obtain ⟨v, S1, e, hf⟩ := h2.ok
  exact scp_pure hc e hf
/-- .. that may raise -/
theorem purX {k i : Nat} {fn : Fn} {ds : List D} {x : Xc} (hT : T i = some fn) (hl : ds.length = fn.ps) (hc : closedL 0 ds = true) (hx : plainX x = true)
    (h : Wt (exs (run T G k) G fn.body (startD fn.ps fn.sl ds) []) ⟨no2, no2, no2, no2, fun y _ => y = x⟩) (S : Sto) : scp 0 false (run T G (k + 1) i) ds S = .exc x S := by
  have h2 : Wr (run T G (k + 1) i ds []) no2 (fun y _ => y = x) := by
    rw [wr_run hT hl]
    exact h.mono (fun _ _ z => z) (fun _ _ z => z) (fun _ _ z => z) (fun _ _ z => z) (fun _ _ z => z)
  cases e : run T G (k + 1) i ds [] with
  | ok a S1 => rw [e] at h2; exact h2.elim
  | bad => rw [e] at h2; exact h2.elim
  | exc y S1 =>
    rw [e] at h2
    have : y = x := h2
    subst this
    exact scp_pureX hc e hx
/-! ### the bag -/
structure Bg where
  cells : List Int
  pos : Int
  rest : Int
  seed : Int
  cnt : Int
  nn : 0 ≤ pos
def Bg.on (B : Bg) (S : Sto) : Sto := .lst (B.cells.map D.int) :: .lst [.ref 0, .int B.pos, .int B.rest, .int B.seed, .int B.cnt] :: S
theorem Bg.closed (B : Bg) {S : Sto} : closedS 2 ((B.on S).take 2) = true := by
  simp only [Bg.on, List.take_succ_cons, List.take_zero, closedS, Ob.ds, closedL, closedD]
  rw [closedL_map fun _ => rfl]
  rfl
theorem noFL_ints : ∀ ns : List Int, noFL (ns.map D.int) = true
  | [] => rfl
  | n :: ns => by rw [List.map_cons]; exact Bool.and_eq_true_iff.mpr ⟨rfl, noFL_ints ns⟩
theorem Bg.noF (B : Bg) {S : Sto} : noFS ((B.on S).take 2) = true := by
  simp only [Bg.on, List.take_succ_cons, List.take_zero, noFS, Ob.ds, noFL, Pl.noF]
  rw [noFL_ints]
  rfl
theorem Bg.take (B : Bg) {S : Sto} : (B.on S).take 2 = B.on [] := rfl
theorem Bg.drop (B : Bg) {S : Sto} : (B.on S).drop 2 = S := rfl
/-- a call that draws: it is handed the bag -/
theorem scp_bag {r : List D → Sto → R D} {ds es : List D} {b : Bool} {B : Bg} {S : Sto} {P : D → Sto → Prop} {X : Xc → Sto → Prop} (hc : (if b then mapO (frz (B.on S) 2 6) ds else if closedL 2 ds then some ds else none) = some es)
    (h : Wr (r es (B.on [])) (fun v S1 => ∃ (B' : Bg) (S2 : Sto) (d : D), S1 = B'.on S2 ∧ frz S1 2 6 v = some d ∧ (b = false ∨ noF d = true) ∧ P d (B'.on S)) no2) : Wr (scp 2 b r ds (B.on S)) P X := by
  obtain ⟨v, S1, e, B', S2, d, rfl, hf, hb, hp⟩ := h.ok
  unfold scp
  have h1 : (decide (2 ≤ (B.on S).length) && closedS 2 ((B.on S).take 2)) = true := by
    rw [B.closed, Bool.and_true]
    exact decide_eq_true (by show 2 ≤ S.length + 1 + 1; omega)
  rw [if_pos h1]
  have h2 : (closedS 2 ((B'.on S2).take 2) && (!b || (noF d && noFS ((B'.on S2).take 2)))) = true := by
    rw [B'.closed, B'.noF, Bool.true_and, Bool.and_true]
    rcases hb with rfl | hb
    · rfl
    · rw [hb]; simp
  simp only [hc, B.take, e, hf]
  rw [if_pos h2, B'.take, B.drop]
  exact hp
theorem bag {k i : Nat} {fn : Fn} {ds : List D} {B : Bg} {S : Sto} {P : D → Sto → Prop} {X : Xc → Sto → Prop} (hT : T i = some fn) (hl : ds.length + 1 = fn.ps) (hc : closedL 2 ds = true)
    (h : Wt (exs (run T G k) G fn.body (startD fn.ps fn.sl (.ref 1 :: ds)) (B.on [])) ⟨fun _ S1 => ∃ (B' : Bg) (S2 : Sto), S1 = B'.on S2 ∧ P .non (B'.on S), no2, no2, fun v S1 => ∃ (B' : Bg) (S2 : Sto) (d : D), S1 = B'.on S2 ∧ frz S1 2 6 v = some d ∧ P d (B'.on S), no2⟩) :
    Wr (scp 2 false (run T G (k + 1) i) (.ref 1 :: ds) (B.on S)) P X := by
  have hc2 : closedL 2 (.ref 1 :: ds) = true := Bool.and_eq_true_iff.mpr ⟨rfl, hc⟩
  refine scp_bag (es := .ref 1 :: ds) (by rw [if_neg Bool.false_ne_true, if_pos hc2]) ?_
  rw [wr_run hT (by rw [List.length_cons]; exact hl)]
  refine h.mono (fun ρ S1 ⟨B', S2, e, hp⟩ => ⟨B', S2, .non, e, frz_cl rfl, .inl rfl, hp⟩) (fun _ _ z => z) (fun _ _ z => z) (fun v S1 ⟨B', S2, d, e, hf, hp⟩ => ⟨B', S2, d, e, hf, .inl rfl, hp⟩) (fun _ _ z => z)
end
end Pl

set_option maxHeartbeats 4000000
/-! Values, texts: what single steps tell. -/
namespace Pl
open PySem L2
def isNn : D → Bool
  | .non => true
  | _ => false
section
variable {i j : Int} {S : Sto} {a b : Bool}
theorem v_add : binV .add (.int i) (.int j) S = .ok (.int (i + j)) S := rfl
theorem v_sub : binV .sub (.int i) (.int j) S = .ok (.int (i - j)) S := rfl
theorem v_mul (h : -9223372036854775808 < j) (h2 : j < 9223372036854775808) : binV .mul (.int i) (.int j) S = .ok (.int (i * j)) S := by
  show (if j.natAbs < 2 ^ 63 then R.ok (D.int (i * j)) S else .bad) = _
  rw [if_pos (by omega)]
theorem v_fdiv (h : 0 < j) (h2 : j < 1073741824) : binV .fdiv (.int i) (.int j) S = .ok (.int (i / j)) S := by
  show (if 0 < j ∧ j < 2 ^ 30 then R.ok (D.int (i / j)) S else .bad) = _
  rw [if_pos (by omega)]
theorem v_mod (h : 0 < j) : binV .mod (.int i) (.int j) S = .ok (.int (i % j)) S := by
  show (if 0 < j then R.ok (D.int (i % j)) S else .bad) = _
  rw [if_pos h]
theorem v_pow18 : binV .pow (.int 10) (.int 18) S = .ok (.int 1000000000000000000) S := by
  show (if 0 ≤ (18 : Int) ∧ (18 : Int) ≤ 1000 ∧ (10 : Int).natAbs < 2 ^ 62 then R.ok (D.int ((10 : Int) ^ (18 : Int).toNat)) S else .bad) = _
  rw [if_pos (by decide)]
  rfl
theorem a_add : augV .add (.int i) (.int j) S = .ok (.int (i + j)) S := rfl
theorem c_gt : cmpV .gt (.int i) (.int j) S = .ok (.bl (decide (j < i))) S := rfl
theorem c_lt : cmpV .lt (.int i) (.int j) S = .ok (.bl (decide (i < j))) S := rfl
theorem c_ge : cmpV .ge (.int i) (.int j) S = .ok (.bl (decide (j ≤ i))) S := rfl
theorem c_le : cmpV .le (.int i) (.int j) S = .ok (.bl (decide (i ≤ j))) S := rfl
theorem c_eqi : cmpV .eq (.int i) (.int j) S = .ok (.bl (decide (i = j))) S := by
  show R.ok (D.bl (decide (i = j) ^^ false)) S = _
  rw [Bool.xor_false]
theorem c_eqb : cmpV .eq (.bl a) (.bl b) S = .ok (.bl (decide (a = b))) S := by
  show R.ok (D.bl (decide (a = b) ^^ false)) S = _
  rw [Bool.xor_false]
theorem c_neb : cmpV .ne (.bl a) (.bl b) S = .ok (.bl (!decide (a = b))) S := by
  show R.ok (D.bl (decide (a = b) ^^ true)) S = _
  rw [Bool.xor_true]
theorem c_eqs {x y : List Nat} : cmpV .eq (.str x) (.str y) S = .ok (.bl (decide (x = y))) S := by
  show R.ok (D.bl (decide (x = y) ^^ false)) S = _
  rw [Bool.xor_false]
theorem c_isN {d : D} : cmpV .isN d .non S = .ok (.bl (isNn d)) S := rfl
theorem c_notN {d : D} : cmpV .notN d .non S = .ok (.bl (!isNn d)) S := by cases d <;> rfl
theorem len_lst {n : Nat} {ds : List D} (h : S[n]? = some (.lst ds)) : lenV (.ref n) S = .ok (.int ds.length) S := by
  unfold lenV
  simp only [h]
theorem len_str {x : List Nat} (h : x.length ≤ lim) : lenV (.str x) S = .ok (.int x.length) S := by
  unfold lenV
  simp only [if_pos h]
end
theorem getIV_go {S : Sto} {n : Nat} {ds : List D} {i : Int} {d : D} (h : S[n]? = some (.lst ds)) (h0 : 0 ≤ i) (hd : ds[i.toNat]? = some d) : getIV (.ref n) (.int i) S = .ok d S := by
  unfold getIV
  simp only [h, if_pos h0, hd]
theorem ixN_go {n : Nat} {i : Int} (h0 : 0 ≤ i) (h1 : i < n) : L2.ixN n i = some i.toNat := by
  unfold L2.ixN
  rw [if_pos h0, if_pos h1]
theorem atI_go {α : Type} {xs : List α} {i : Int} {d : α} (h0 : 0 ≤ i) (hd : xs[i.toNat]? = some d) : L2.atI xs i = some d := by
  unfold L2.atI
  have : i.toNat < xs.length := (List.getElem?_eq_some_iff.mp hd).1
  rw [ixN_go h0 (by omega)]
  exact hd
theorem atI_in {α : Type} {xs : List α} {i : Int} (h0 : 0 ≤ i) (h1 : i < xs.length) : ∃ d, L2.atI xs i = some d ∧ xs[i.toNat]? = some d := by
  have : i.toNat < xs.length := by omega
  exact ⟨xs[i.toNat], atI_go h0 (List.getElem?_eq_getElem this), List.getElem?_eq_getElem this⟩
theorem idxV_lst {S : Sto} {n : Nat} {ds : List D} {i : Int} {d : D} (h : S[n]? = some (.lst ds)) (hd : L2.atI ds i = some d) : idxV (.ref n) (.int i) S = .ok d S := by
  unfold idxV
  simp only [h, hd]
theorem setIV_go {S : Sto} {n : Nat} {ds : List D} {i : Int} {d : D} (h : S[n]? = some (.lst ds)) (h0 : 0 ≤ i) (h1 : i < ds.length) : setIV (.ref n) (.int i) d S = .ok () (S.set n (.lst (ds.set i.toNat d))) := by
  unfold setIV
  simp only [h, ixN_go h0 h1]
/-- the places of the first letters: small in great, whose first letter stands at k -/
def gr : List Nat → List Nat → Nat → Option (List Nat)
  | [], _, _ => some []
  | _ :: _, [], _ => none
  | c :: s, d :: r, k => if d = c then (gr s r (k + 1)).map (k :: ·) else gr (c :: s) r (k + 1)
theorem gr_len : ∀ (r s : List Nat) (k : Nat) (ps : List Nat), gr s r k = some ps → s.length ≤ r.length ∧ ps.length = s.length
  | r, [], k, ps, h => by simp only [gr] at h; cases h; simp
  | [], c :: s, k, ps, h => by simp only [gr] at h; cases h
  | d :: r, c :: s, k, ps, h => by
    simp only [gr] at h
    split at h
    · cases q : gr s r (k + 1) with
      | none => rw [q] at h; cases h
      | some qs =>
        rw [q] at h
        cases h
        have := gr_len r s (k + 1) qs q
        simp only [List.length_cons]
        omega
    · have := gr_len r (c :: s) (k + 1) ps h
      simp only [List.length_cons] at this ⊢
      omega
theorem gr_self : ∀ (r : List Nat) (k : Nat), (gr r r k).isSome = true
  | [], k => rfl
  | c :: r, k => by
    simp only [gr, if_true]
    rw [Option.isSome_map]
    exact gr_self r (k + 1)
/-- no such letter on the way -/
theorem gr_none {c : Nat} {s : List Nat} : ∀ (r : List Nat) (k : Nat), c ∉ r → gr (c :: s) r k = none
  | [], k, h => by simp only [gr]
  | d :: r, k, h => by
    simp only [List.mem_cons, not_or] at h
    simp only [gr, if_neg (Ne.symm h.1)]
    exact gr_none r (k + 1) h.2
theorem gr_at {c : Nat} {s : List Nat} : ∀ (r : List Nat) (k i : Nat), r[i]? = some c → (∀ j, j < i → r[j]? ≠ some c) → gr (c :: s) r k = (gr s (r.drop (i + 1)) (k + i + 1)).map (fun z => (k + i) :: z)
  | [], k, i, h, _ => by simp at h
  | d :: r, k, 0, h, _ => by
    simp at h
    subst h
    simp only [gr, if_true]
    rfl
  | d :: r, k, i + 1, h, hn => by
    have h1 : d ≠ c := fun e => hn 0 (by omega) (by simp [e])
    simp only [gr, if_neg h1]
    rw [gr_at r (k + 1) i (by simpa using h) (fun j hj => by have := hn (j + 1) (by omega); simpa using this)]
    rw [show k + 1 + i = k + (i + 1) by omega]
    rfl
/-- find, of one letter -/
theorem find_one (a : List Nat) (c n : Nat) (hn : n ≤ a.length) :
    (Txt.find3 ⟨a.toArray⟩ ⟨[c].toArray⟩ (n : Int) = -1 ∧ c ∉ a.drop n) ∨
    ∃ i, (a.drop n)[i]? = some c ∧ (∀ j, j < i → (a.drop n)[j]? ≠ some c) ∧ Txt.find3 ⟨a.toArray⟩ ⟨[c].toArray⟩ (n : Int) = ((n + i : Nat) : Int) := by
  have hl : (⟨a.toArray⟩ : Str).length = a.length := by simp [Str.length]
  have hf : fromIndex (⟨a.toArray⟩ : Str).length (n : Int) = n := by
    unfold fromIndex
    rw [if_neg (by omega)]
    omega
  have hat : ∀ i, StrLaws.At (⟨a.toArray⟩ : Str) ⟨#[c]⟩ (⟨a.toArray⟩ : Str).length i ↔ a[i]? = some c := fun i => by
    have := StrLaws.subAt_one (⟨a.toArray⟩ : Str) c i
    unfold StrLaws.At
    rw [this]
  unfold Txt.find3
  rw [hf]
  show ((match Builtin.Str.occurrences (⟨a.toArray⟩ : Str) ⟨#[c]⟩ n (⟨a.toArray⟩ : Str).length 1 with | k :: _ => (k : Int) | [] => -1) = -1 ∧ _) ∨ ∃ i, _ ∧ _ ∧ (match Builtin.Str.occurrences (⟨a.toArray⟩ : Str) ⟨#[c]⟩ n (⟨a.toArray⟩ : Str).length 1 with | k :: _ => (k : Int) | [] => -1) = _
  rw [StrLaws.occ_eq]
  have sz := StrLaws.occ_length_le (⟨a.toArray⟩ : Str) ⟨#[c]⟩ n (⟨a.toArray⟩ : Str).length 1
  rw [StrLaws.occ_eq] at sz
  rcases StrLaws.occ_first (⟨a.toArray⟩ : Str) ⟨#[c]⟩ (⟨a.toArray⟩ : Str).length 1 (Nat.le_refl 1) (List.range' n ((⟨a.toArray⟩ : Str).length + 1 - n)) n (fun i hi => by simp [List.mem_range'] at hi; omega) with ⟨h0, hno⟩ | ⟨pre, x, post, hs, h0, hx, hno⟩
  · left
    rw [h0]
    refine ⟨rfl, fun hm => ?_⟩
    obtain ⟨j, hj⟩ := List.getElem?_of_mem hm
    rw [List.getElem?_drop] at hj
    have hlt := (List.getElem?_eq_some_iff.mp hj).1
    exact hno (n + j) (by rw [hl]; simp [List.mem_range']; omega) ((hat _).mpr hj)
  · right
    have hpre : pre.length = x - n ∧ n ≤ x ∧ ∀ k, n ≤ k → k < x → k ∈ pre := by
      have e1 : (List.range' n ((⟨a.toArray⟩ : Str).length + 1 - n))[pre.length]? = some x := by rw [hs]; simp
      have hlen := congrArg List.length hs
      simp only [List.length_range', List.length_append, List.length_cons] at hlen
      rw [List.getElem?_range' (by omega)] at e1
      have e2 : n + 1 * pre.length = x := Option.some.inj e1
      refine ⟨by omega, by omega, fun k h1 h2 => ?_⟩
      have hk : (List.range' n ((⟨a.toArray⟩ : Str).length + 1 - n))[k - n]? = pre[k - n]? := by rw [hs, List.getElem?_append_left (by omega)]
      rw [List.getElem?_range' (by omega)] at hk
      have := List.mem_of_getElem? hk.symm
      rwa [show n + 1 * (k - n) = k by omega] at this
    obtain ⟨p1, p2, p3⟩ := hpre
    refine ⟨x - n, ?_, fun j hj e => ?_, ?_⟩
    · rw [List.getElem?_drop, show n + (x - n) = x by omega]
      exact (hat x).mp hx
    · rw [List.getElem?_drop] at e
      exact hno (n + j) (p3 _ (by omega) (by omega)) ((hat _).mpr e)
    · generalize ((forIn (m := Id) (List.range' n ((⟨a.toArray⟩ : Str).length + 1 - n)) ((#[] : Array Nat), n) (StrLaws.occBody ⟨a.toArray⟩ ⟨#[c]⟩ (⟨a.toArray⟩ : Str).length 1)).run.fst) = arr at h0 ⊢
      obtain ⟨l⟩ := arr
      cases l with
      | nil => simp at h0
      | cons y r =>
        simp at h0
        subst h0
        show (y : Int) = _
        rw [show n + (y - n) = y by omega]
def posD (ps : List Nat) : List D := ps.map fun (p : Nat) => D.int (p : Int)
/-- a text cut at its first c -/
theorem part_one (a : List Nat) (c : Nat) :
    (c ∉ a ∧ Txt.partition ⟨a.toArray⟩ ⟨[c].toArray⟩ = (⟨a.toArray⟩, Str.empty, Str.empty)) ∨
    ∃ i, a[i]? = some c ∧ (∀ k, k < i → a[k]? ≠ some c) ∧ (Txt.partition ⟨a.toArray⟩ ⟨[c].toArray⟩).2.1.cps.toList = [c] ∧ (Txt.partition ⟨a.toArray⟩ ⟨[c].toArray⟩).2.2.cps.toList = a.drop (i + 1) := by
  have hl : ((⟨a.toArray⟩ : Str).cps.toList) = a := by simp
  rcases StrLaws.occ_head (⟨a.toArray⟩ : Str) ⟨#[c]⟩ 1 (Nat.le_refl 1) with ⟨h0, hn⟩ | ⟨i, r, h0, hi, hn⟩
  · left
    refine ⟨fun hm => ?_, ?_⟩
    · obtain ⟨j, hj⟩ := List.getElem?_of_mem hm
      exact hn j ((StrLaws.subAt_one _ c j).mpr (by rw [hl]; exact hj))
    · unfold Txt.partition
      show (match Builtin.Str.occurrences _ ⟨#[c]⟩ 0 _ 1 with | i :: _ => _ | [] => _) = _
      rw [h0]
  · right
    have hm := (StrLaws.subAt_one _ c i).mp hi
    rw [hl] at hm
    have hp : Txt.partition ⟨a.toArray⟩ ⟨[c].toArray⟩ = (Builtin.Str.strSub ⟨a.toArray⟩ 0 i, ⟨#[c]⟩, Builtin.Str.strSub ⟨a.toArray⟩ (i + 1) (Str.length ⟨a.toArray⟩)) := by
      unfold Txt.partition
      show (match Builtin.Str.occurrences _ ⟨#[c]⟩ 0 _ 1 with | i :: _ => _ | [] => _) = _
      rw [h0]
      rfl
    refine ⟨i, hm, fun k hk e => hn k hk ((StrLaws.subAt_one _ c k).mpr (by rw [hl]; exact e)), ?_, ?_⟩
    · rw [hp]
    · rw [hp]
      show (Builtin.Str.strSub ⟨a.toArray⟩ (i + 1) (Str.length ⟨a.toArray⟩)).cps.toList = _
      rw [StrLaws.strSub_toList, hl]
      exact List.take_of_length_le (by simp [Str.length])
/-- what lies behind the first c of a -/
def BehindD (a : List Nat) (c : Nat) (d : D) : Prop := (c ∉ a ∧ d = .non) ∨ ∃ i, a[i]? = some c ∧ (∀ k, k < i → a[k]? ≠ some c) ∧ d = .str (a.drop (i + 1))
theorem BehindD.one {a : List Nat} {c : Nat} {d e : D} (h : BehindD a c d) (k : BehindD a c e) : d = e := by
  rcases h with ⟨h1, rfl⟩ | ⟨i, h1, h2, rfl⟩ <;> rcases k with ⟨k1, rfl⟩ | ⟨j, k1, k2, rfl⟩
  · rfl
  · exact absurd (List.mem_of_getElem? k1) h1
  · exact absurd (List.mem_of_getElem? h1) k1
  · have : i = j := by
      rcases Nat.lt_trichotomy i j with q | q | q
      · exact absurd h1 (k2 i q)
      · exact q
      · exact absurd k1 (h2 j q)
    rw [this]
section
variable {T : Tab} {G : Nat → Option D}
theorem cut_to {α : Type} (xs : List α) (n : Nat) : cutL xs none (some (n : Int)) = xs.take n := by
  unfold cutL
  rw [HT.sIx_nat, HT.sIx_none, List.drop_zero, Nat.sub_zero]
  by_cases h : n ≤ xs.length
  · rw [Nat.min_eq_left h]
  · rw [Nat.min_eq_right (by omega), List.take_of_length_le (Nat.le_refl _), List.take_of_length_le (by omega)]
theorem cut_from {α : Type} (xs : List α) (n : Nat) : cutL xs (some (n : Int)) none = xs.drop n := by
  unfold cutL
  rw [HT.sIx_nat, HT.sIx_none]
  by_cases h : n ≤ xs.length
  · rw [Nat.min_eq_left h, List.take_of_length_le (by simp)]
  · rw [Nat.min_eq_right (by omega), List.drop_of_length_le (Nat.le_refl _), List.drop_of_length_le (by omega), List.take_nil]
theorem idx_str {a : List Nat} {i c : Nat} {S : Sto} (hl : a.length ≤ lim) (h : a[i]? = some c) : idxV (.str a) (.int i) S = .ok (.str [c]) S := by
  unfold idxV
  simp only [if_pos hl]
  rw [atI_go (by omega) (by simpa using h)]
end
/-! ### data -/
def flOk : D → Bool
  | .non => true | .bl _ => true | .int _ => true
  | .str x => PyData.strOk ⟨x.toArray⟩
  | _ => false
theorem pd_flat (g : Nat → Option PyData) : ∀ ds : List D, (∀ d ∈ ds, flOk d = true) → ∃ ps, pdRs g ds = some ps ∧ PyData.canLayAll0 ps = true ∧ PyData.depthAll ps ≤ 1 ∧ ps.length = ds.length
  | [], _ => ⟨[], rfl, rfl, by simp [PyData.depthAll], rfl⟩
  | d :: ds, h => by
    obtain ⟨ps, h1, h2, h3, h4⟩ := pd_flat g ds fun x hx => h x (List.mem_cons_of_mem _ hx)
    have hd := h d (List.mem_cons_self ..)
    have : ∃ p, pdR g d = some p ∧ PyData.canLay0 p = true ∧ PyData.depth p ≤ 1 := by
      cases d <;> first
        | (cases hd; done)
        | skip
      · exact ⟨_, rfl, rfl, by simp [PyData.depth]⟩
      · exact ⟨_, rfl, rfl, by simp [PyData.depth]⟩
      · exact ⟨_, rfl, rfl, by simp [PyData.depth]⟩
      · exact ⟨_, rfl, hd, by simp [PyData.depth]⟩
    obtain ⟨p, p1, p2, p3⟩ := this
    refine ⟨p :: ps, by simp only [pdRs, p1, h1], by simp [PyData.canLayAll0, p2, h2], by simp only [PyData.depthAll]; omega, by simp [h4]⟩
def lettB (w : List Nat) : Bool := w.all fun c => decide (c ∈ alph)
theorem in_alph {c : Nat} {S : Sto} : cmpV .isin (.str [c]) (.str alph) S = .ok (.bl (decide (c ∈ alph))) S := by
  show R.ok (D.bl ((!(Builtin.Str.occurrences ⟨alph.toArray⟩ ⟨[c].toArray⟩ 0 alph.length 1).isEmpty) ^^ false)) S = _
  have := StrLaws.found_one ⟨alph.toArray⟩ c
  rw [Bool.xor_false]
  exact congrArg (fun b => R.ok (D.bl b) S) this
theorem nin_alph {c : Nat} {S : Sto} : cmpV .notin (.str [c]) (.str alph) S = .ok (.bl (!decide (c ∈ alph))) S := by
  show R.ok (D.bl ((!(Builtin.Str.occurrences ⟨alph.toArray⟩ ⟨[c].toArray⟩ 0 alph.length 1).isEmpty) ^^ true)) S = _
  have := StrLaws.found_one ⟨alph.toArray⟩ c
  rw [Bool.xor_true]
  exact congrArg (fun b => R.ok (D.bl (!b)) S) this
theorem bools_map {α : Type} (h : α → Bool) : ∀ xs : List α, boolsD (xs.map fun x => D.bl (h x)) = some (xs.map h)
  | [] => rfl
  | x :: xs => by simp only [List.map_cons, boolsD, bools_map h xs, Option.map_some]
section
variable {T : Tab} {G : Nat → Option D}
theorem bools_true : ∀ n : Nat, boolsD (List.replicate n (.bl true)) = some (List.replicate n true)
  | 0 => rfl
  | n + 1 => by
    rw [List.replicate_succ, List.replicate_succ]
    simp only [boolsD, bools_true n, Option.map_some]
theorem strs_of : ∀ xs : List Nat, strsD (xs.map fun c => D.str [c]) = some (xs.map fun c => [c])
  | [] => rfl
  | x :: xs => by simp only [List.map_cons, strsD, strs_of xs, Option.map_some]
theorem join_one : ∀ xs : List Nat, joinL [] (xs.map fun c => [c]) = xs
  | [] => rfl
  | [x] => rfl
  | x :: y :: r => by
    have := join_one (y :: r)
    show [x] ++ [] ++ joinL [] ((y :: r).map fun c => [c]) = _
    rw [this]
    rfl
theorem sum_one : ∀ xs : List Nat, ((xs.map fun c => [c]).map List.length).sum = xs.length
  | [] => rfl
  | x :: xs => by
    rw [List.map_cons, List.map_cons, List.sum_cons, sum_one xs]
    show 1 + xs.length = xs.length + 1
    omega
theorem cut_ints {ns : List Int} {lo hi : Option Int} : cutL (ns.map D.int) lo hi = (cutL ns lo hi).map D.int := by
  unfold cutL
  rw [List.length_map, List.map_take, List.map_drop]
theorem idxV_fro {S : Sto} {ds : List D} {i : Int} {d : D} (hd : L2.atI ds i = some d) : idxV (.fro ds) (.int i) S = .ok d S := by
  unfold idxV
  simp only [hd]
theorem idxV_tup {S : Sto} {ds : List D} {i : Int} {d : D} (hd : L2.atI ds i = some d) : idxV (.tup ds) (.int i) S = .ok d S := by
  unfold idxV
  simp only [hd]
theorem len_fro {S : Sto} {ds : List D} : lenV (.fro ds) S = .ok (.int ds.length) S := rfl
theorem len_tup {S : Sto} {ds : List D} : lenV (.tup ds) S = .ok (.int ds.length) S := rfl
theorem sli_str {S : Sto} {x : List Nat} {lo hi : Option Int} (h : x.length ≤ lim) : sliV (.str x) lo hi S = .ok (.str (cutL x lo hi)) S := by
  simp only [sliV, if_pos h]
theorem sli_fro {S : Sto} {x : List D} {lo hi : Option Int} : sliV (.fro x) lo hi S = .ok (.fro (cutL x lo hi)) S := rfl
theorem add_str {S : Sto} {x y : List Nat} (h : x.length + y.length ≤ 100000) : binV .add (.str x) (.str y) S = .ok (.str (x ++ y)) S := if_pos h
theorem add_fro {S : Sto} {x y : List D} (h : x.length + y.length ≤ 100000) : binV .add (.fro x) (.fro y) S = .ok (.fro (x ++ y)) S := if_pos h
theorem add_tup {S : Sto} {x y : List D} (h : x.length + y.length ≤ 100000) : binV .add (.tup x) (.tup y) S = .ok (.tup (x ++ y)) S := if_pos h
end
end Pl

set_option maxHeartbeats 4000000
/-! Shared defs: words, drawing. -/
namespace Pl
open PySem L2
/-- spots: small great found at letter -/
def f_spots : Fn := ⟨2, 5, [
  .asg 2 (.new (.lst [])),
  .asg 3 (.cst (.int 0)),
  .for_ [4] false (.str (.var 0)) [.asg 3 (.find3 (.var 1) (.var 4) (.var 3)), .if_ (.cmp .lt (.var 3) (.cst (.int 0))) [.ret (.cst .non)] [], .expr (.app (.var 2) (.var 3)), .aug .add 3 (.cst (.int 1))],
  .ret (.var 2)]⟩
/-- within: small great -/
def f_within : Fn := ⟨2, 2, [
  .ret (.cmp .notN (.calls 0 false 0 [(.var 0), (.var 1)]) (.cst .non))]⟩
/-- above: one other small great -/
def f_above : Fn := ⟨2, 4, [
  .if_ (.cmp .ne (.idx (.var 0) (.cst (.int 0))) (.idx (.var 1) (.cst (.int 0)))) [.ret (.cst (.bl false))] [],
  .ret (.all_ (.fr (.lc [("small", 2), ("great", 3)] [2, 3] true (.zip (.ex (.idx (.var 1) (.cst (.int 1)))) (.ex (.idx (.var 0) (.cst (.int 1))))) none (.calls 0 false 1 [(.var 2), (.var 3)]))))]⟩
/-- behind: word letter front found rest -/
def f_behind : Fn := ⟨2, 5, [
  .asgT [2, 3, 4] (.part (.var 0) (.var 1)),
  .ret (.ifx (.cmp .eq (.var 3) (.cst (.str []))) (.cst .non) (.var 4))]⟩
/-- is_word: text sign -/
def f_is_word : Fn := ⟨1, 2, [
  .ret (.all_ (.fr (.lc [("sign", 1)] [1] false (.str (.var 0)) none (.cmp .isin (.var 1) (.glo 19)))))]⟩
/-- is_letter: text -/
def f_is_letter : Fn := ⟨1, 1, [
  .ret (.and_ (.cmp .eq (.len (.var 0)) (.cst (.int 1))) (.cmp .isin (.var 0) (.glo 19)))]⟩
/-- is_name: text -/
def f_is_name : Fn := ⟨1, 1, [
  .ret (.and_ (.chn .le .le (.cst (.int 1)) (.len (.var 0)) (.glo 20)) (.calls 0 false 21 [(.var 0)]))]⟩
/-- _law_bag: _law_script _law_seed _law_cell -/
def f__law_bag : Fn := ⟨1, 3, [
  .asg 1 (.cst (.int 41)),
  .for_ [2] false (.sq (.fr (.cut (.var 0) none (some (.cst (.int 63)))))) [.asg 1 (.bin .mod (.bin .add (.bin .add (.bin .mul (.var 1) (.cst (.int 65539))) (.var 2)) (.cst (.int 7))) (.cst (.int 2147483629)))],
  .ret (.new (.lst [(.new (.list (.fr (.cut (.var 0) none (some (.cst (.int 63))))))), (.cst (.int 0)), (.cst (.int 0)), (.var 1), (.cst (.int 0))]))]⟩
/-- _law_pull: _law_bag_here _law_many _law_cell _law_one _law_two _law_rest -/
def f__law_pull : Fn := ⟨2, 6, [
  .augI .add (.var 0) (.cst (.int 4)) (.cst (.int 1)),
  .if_ (.cmp .gt (.idx (.var 0) (.cst (.int 2))) (.cst (.int 0))) [.asg 5 (.idx (.var 0) (.cst (.int 2))), .setI (.var 0) (.cst (.int 2)) (.bin .fdiv (.var 5) (.var 1)), .ret (.bin .mod (.var 5) (.var 1))] [],
  .asg 2 (.idx (.var 0) (.cst (.int 3))),
  .if_ (.cmp .lt (.idx (.var 0) (.cst (.int 1))) (.len (.idx (.var 0) (.cst (.int 0))))) [.asg 2 (.idx (.idx (.var 0) (.cst (.int 0))) (.idx (.var 0) (.cst (.int 1)))), .augI .add (.var 0) (.cst (.int 1)) (.cst (.int 1))] [],
  .if_ (.cmp .ge (.var 2) (.bin .pow (.cst (.int 10)) (.cst (.int 18)))) [.setI (.var 0) (.cst (.int 2)) (.bin .fdiv (.var 2) (.var 1)), .ret (.bin .mod (.var 2) (.var 1))] [],
  .asg 3 (.bin .mod (.bin .add (.bin .add (.bin .add (.bin .mul (.var 2) (.cst (.int 48271))) (.bin .mul (.idx (.var 0) (.cst (.int 3))) (.cst (.int 40503)))) (.bin .mul (.idx (.var 0) (.cst (.int 4))) (.cst (.int 69621)))) (.cst (.int 12345))) (.cst (.int 2147483629))),
  .asg 4 (.bin .mod (.bin .add (.bin .add (.bin .mul (.var 3) (.bin .add (.bin .mod (.var 3) (.cst (.int 65521))) (.cst (.int 11)))) (.bin .mul (.idx (.var 0) (.cst (.int 4))) (.cst (.int 40692)))) (.bin .mod (.idx (.var 0) (.cst (.int 3))) (.cst (.int 104729)))) (.cst (.int 998244353))),
  .setI (.var 0) (.cst (.int 3)) (.bin .mod (.bin .add (.bin .mul (.idx (.var 0) (.cst (.int 3))) (.cst (.int 16807))) (.var 4)) (.cst (.int 2147483563))),
  .ret (.bin .mod (.bin .fdiv (.var 4) (.cst (.int 7))) (.var 1))]⟩
/-- _law_of: _law_bag_here _law_some -/
def f__law_of : Fn := ⟨2, 2, [
  .ret (.idx (.var 1) (.calls 2 false 2 [(.var 0), (.len (.var 1))]))]⟩
/-- _law_same: _law_found _law_due _law_a _law_b -/
def f__law_same : Fn := ⟨2, 4, [
  .if_ (.ex (.isi2 (.var 1) .list .tuple)) [.if_ (.or_ (.cmp .ne (.isi (.var 0) .list) (.isi (.var 1) .list)) (.cmp .ne (.isi (.var 0) .tuple) (.isi (.var 1) .tuple))) [.ret (.cst (.bl false))] [], .ret (.and_ (.cmp .eq (.len (.var 0)) (.len (.var 1))) (.all_ (.fr (.lc [("_law_a", 2), ("_law_b", 3)] [2, 3] true (.zip (.ex (.var 0)) (.ex (.var 1))) none (.calls 0 false 3 [(.var 2), (.var 3)])))))] [],
  .if_ (.or_ (.cmp .isN (.var 1) (.cst .non)) (.cmp .isN (.var 0) (.cst .non))) [.ret (.and_ (.cmp .isN (.var 0) (.cst .non)) (.cmp .isN (.var 1) (.cst .non)))] [],
  .if_ (.or_ (.cmp .ne (.isi (.var 0) .bool) (.isi (.var 1) .bool)) (.cmp .ne (.isi (.var 0) .int) (.isi (.var 1) .int))) [.ret (.cst (.bl false))] [],
  .ret (.and_ (.cmp .eq (.isi (.var 0) .str) (.isi (.var 1) .str)) (.cmp .eq (.var 0) (.var 1)))]⟩
/-- _law_letters: _law_bag_here _law_alphabet _law_first _law_by _law_k -/
def f__law_letters : Fn := ⟨1, 5, [
  .asg 1 (.cst (.str alph)),
  .asg 2 (.calls 2 false 2 [(.var 0), (.cst (.int 26))]),
  .asg 3 (.calls 2 false 4 [(.var 0), (.frn (.lst [(.cst (.int 1)), (.cst (.int 3)), (.cst (.int 5)), (.cst (.int 7)), (.cst (.int 9)), (.cst (.int 11))]))]),
  .ret (.frn (.lc [("_law_k", 4)] [4] false (.rng (.cst (.int 3))) none (.idx (.var 1) (.bin .mod (.bin .add (.var 2) (.bin .mul (.var 3) (.var 4))) (.cst (.int 26))))))]⟩
/-- _law_names: _law_bag_here _law_many _law_alphabet _law_tail _law_at _law_first _law_by _law_k -/
def f__law_names : Fn := ⟨2, 8, [
  .asg 2 (.cst (.str alph)),
  .asg 3 (.join (.cst (.str [])) (.fr (.lc [("_law_k", 7)] [7] false (.rng (.calls 2 false 2 [(.var 0), (.cst (.int 8))])) none (.calls 2 false 4 [(.var 0), (.var 2)])))),
  .asg 4 (.calls 2 false 2 [(.var 0), (.bin .add (.len (.var 3)) (.cst (.int 1)))]),
  .asg 5 (.calls 2 false 2 [(.var 0), (.cst (.int 26))]),
  .asg 6 (.calls 2 false 4 [(.var 0), (.frn (.lst [(.cst (.int 1)), (.cst (.int 3)), (.cst (.int 5)), (.cst (.int 7)), (.cst (.int 9)), (.cst (.int 11))]))]),
  .ret (.frn (.lc [("_law_k", 7)] [7] false (.rng (.var 1)) none (.bin .add (.bin .add (.sli (.var 3) none (some (.var 4))) (.idx (.var 2) (.bin .mod (.bin .add (.var 5) (.bin .mul (.var 6) (.var 7))) (.cst (.int 26))))) (.sli (.var 3) (some (.var 4)) none))))]⟩
/-- _law_word: _law_bag_here _law_letters_here _law_top _law_k -/
def f__law_word : Fn := ⟨3, 4, [
  .ret (.join (.cst (.str [])) (.fr (.lc [("_law_k", 3)] [3] false (.rng (.calls 2 false 2 [(.var 0), (.bin .add (.var 2) (.cst (.int 1)))])) none (.calls 2 false 4 [(.var 0), (.var 1)]))))]⟩
/-- _law_plan: _law_bag_here _law_machines _law_stands _law_rows _law_moves _law_names_here _law_letters_here _law_plan_here _law_k _law_some -/
def f__law_plan : Fn := ⟨5, 10, [
  .asg 5 (.calls 2 false 5 [(.var 0), (.cst (.int 12))]),
  .asg 6 (.sli (.calls 2 false 6 [(.var 0)]) none (some (.bin .add (.cst (.int 1)) (.calls 2 false 2 [(.var 0), (.cst (.int 3))])))),
  .asg 7 (.disp [(.cst (.str [108, 101, 116, 116, 101, 114, 115])), (.var 6), (.cst (.str [109, 97, 99, 104, 105, 110, 101, 115])), (.new (.lst [])), (.cst (.str [114, 111, 119, 115])), (.new (.lst [])), (.cst (.str [109, 111, 118, 101, 115])), (.new (.lst [])), (.cst (.str [115, 116, 97, 110, 100, 115])), (.new (.lst []))]),
  .for_ [8] false (.rng (.var 1)) [.asg 9 (.sli (.calls 2 false 5 [(.var 0), (.cst (.int 6))]) none (some (.bin .add (.cst (.int 1)) (.calls 2 false 2 [(.var 0), (.var 2)])))), .expr (.app (.dget (.var 7) (.cst (.str [115, 116, 97, 110, 100, 115]))) (.var 9)), .expr (.app (.dget (.var 7) (.cst (.str [109, 97, 99, 104, 105, 110, 101, 115]))) (.tup [(.idx (.var 5) (.var 8)), (.calls 2 false 4 [(.var 0), (.var 9)])]))],
  .for_ [8] false (.rng (.var 3)) [.expr (.app (.dget (.var 7) (.cst (.str [114, 111, 119, 115]))) (.tup [(.idx (.var 5) (.bin .add (.cst (.int 5)) (.var 8))), (.calls 2 false 7 [(.var 0), (.var 6), (.cst (.int 2))])]))],
  .for_ [8] false (.rng (.bin .mul (.var 4) (.intb (.cmp .gt (.var 1) (.cst (.int 0)))))) [.expr (.app (.dget (.var 7) (.cst (.str [109, 111, 118, 101, 115]))) (.calls 2 true 8 [(.var 0), (.var 7)]))],
  .ret (.var 7)]⟩
/-- _law_act: _law_bag_here _law_plan_here _law_kind _law_row -/
def f__law_act : Fn := ⟨2, 4, [
  .asg 2 (.calls 2 false 2 [(.var 0), (.cst (.int 9))]),
  .if_ (.or_ (.cmp .eq (.var 2) (.cst (.int 0))) (.cmp .eq (.dget (.var 1) (.cst (.str [114, 111, 119, 115]))) (.frn (.lst [])))) [.ret (.tup [(.cst (.str [105, 100, 108, 101]))])] [],
  .asg 3 (.idx (.calls 2 false 4 [(.var 0), (.dget (.var 1) (.cst (.str [114, 111, 119, 115])))]) (.cst (.int 0))),
  .if_ (.cmp .eq (.var 2) (.cst (.int 1))) [.ret (.tup [(.cst (.str [98, 97, 114, 101])), (.var 3)])] [],
  .ret (.tup [(.idx (.frn (.lst [(.cst (.str [115, 101, 110, 100])), (.cst (.str [116, 97, 107, 101]))])) (.bin .mod (.var 2) (.cst (.int 2)))), (.var 3), (.calls 2 false 4 [(.var 0), (.dget (.var 1) (.cst (.str [108, 101, 116, 116, 101, 114, 115])))])])]⟩
/-- _law_move: _law_bag_here _law_plan_here _law_at _law_some -/
def f__law_move : Fn := ⟨2, 4, [
  .asg 2 (.calls 2 false 2 [(.var 0), (.len (.dget (.var 1) (.cst (.str [109, 97, 99, 104, 105, 110, 101, 115]))))]),
  .asg 3 (.idx (.dget (.var 1) (.cst (.str [115, 116, 97, 110, 100, 115]))) (.var 2)),
  .ret (.tup [(.idx (.idx (.dget (.var 1) (.cst (.str [109, 97, 99, 104, 105, 110, 101, 115]))) (.var 2)) (.cst (.int 0))), (.calls 2 false 4 [(.var 0), (.var 3)]), (.calls 2 false 9 [(.var 0), (.var 1)]), (.calls 2 false 4 [(.var 0), (.var 3)])])]⟩
/-- _law_held: _law_plan_here _law_at _law_found _law_name _law_first _law_machine _law_start _law_act_here _law_end -/
def f__law_held : Fn := ⟨2, 9, [
  .asgT [3, 4] (.idx (.dget (.var 0) (.cst (.str [109, 97, 99, 104, 105, 110, 101, 115]))) (.var 1)),
  .asg 2 (.frn (.lst [(.var 4)])),
  .for_ [5, 6, 7, 8] true (.sq (.ex (.dget (.var 0) (.cst (.str [109, 111, 118, 101, 115]))))) [.if_ (.cmp .eq (.var 5) (.var 3)) [.asg 2 (.bin .add (.var 2) (.frn (.lst [(.var 6), (.var 8)])))] []],
  .ret (.frn (.sset (.ex (.var 2))))]⟩
/-- _law_scene: _law_bag_here _law_plan_here _law_top _law_stands _law_at _law_row -/
def f__law_scene : Fn := ⟨3, 6, [
  .asg 3 (.tupq (.fr (.lc [("_law_at", 4)] [4] false (.rng (.len (.dget (.var 1) (.cst (.str [109, 97, 99, 104, 105, 110, 101, 115]))))) none (.calls 2 false 4 [(.var 0), (.calls 0 false 10 [(.var 1), (.var 4)])])))),
  .ret (.tup [(.var 3), (.tupq (.fr (.lc [("_law_row", 5)] [5] false (.sq (.ex (.dget (.var 1) (.cst (.str [114, 111, 119, 115]))))) none (.calls 2 false 7 [(.var 0), (.dget (.var 1) (.cst (.str [108, 101, 116, 116, 101, 114, 115]))), (.var 2)]))))])]⟩

section
variable {T : Tab} {G : Nat → Option D} {C : Nat → List D → Sto → R D}
/-! ### words -/
def spotsD (s g : List Nat) : D := match gr s g 0 with
  | some ps => .fro (posD ps)
  | none => .non
def SpSpots (C : Nat → List D → Sto → R D) : Prop := ∀ (s g : List Nat) (S : Sto), s.length < lim → scp 0 false (C 0) [.str s, .str g] S = .ok (spotsD s g) S
theorem spots_ok (hT : T 0 = some f_spots) (k : Nat) : SpSpots (run T G (k + 1)) := fun s r S hs => by
  refine pur hT rfl rfl ?_ S
  show Wt (exs _ _ f_spots.body [some (.str s), some (.str r), none, none, none] []) _
  unfold f_spots
  rw [wt_cons]
  simp only [ev, evs, evo, evT, evto, evF, evQ, evI, ex, wr_bind, wr_ok, wr_exc, wt_o, wt_seq, wt_turn, wt_next, wt_brk, wt_cont, wt_ret, wt_exc, Pl.R.bind_ok, Pl.R.o_ok, Pl.R.bind_exc, Pl.R.o_exc, List.getElem?_cons_zero, List.getElem?_cons_succ, List.set_cons_zero, List.set_cons_succ, List.length_nil, Nat.zero_le, if_true]
  rw [wt_cons]
  simp only [ev, evs, evo, evT, evto, evF, evQ, evI, ex, wr_bind, wr_ok, wr_exc, wt_o, wt_seq, wt_turn, wt_next, wt_brk, wt_cont, wt_ret, wt_exc, Pl.R.bind_ok, Pl.R.o_ok, Pl.R.bind_exc, Pl.R.o_exc, List.getElem?_cons_zero, List.getElem?_cons_succ, List.set_cons_zero, List.set_cons_succ]
  rw [wt_cons]
  simp only [ev, evs, evo, evT, evto, evF, evQ, evI, ex, wr_bind, wr_ok, wr_exc, wt_o, wt_seq, wt_turn, wt_next, wt_brk, wt_cont, wt_ret, wt_exc, Pl.R.bind_ok, Pl.R.o_ok, Pl.R.bind_exc, Pl.R.o_exc, List.getElem?_cons_zero, List.getElem?_cons_succ, List.set_cons_zero, List.set_cons_succ]
  refine for_map (fun i ρ S' => ∃ (ps : List Nat) (n : Nat) (x : Option D), i ≤ s.length ∧ ρ = [some (.str s), some (.str r), some (.ref 0), some (.int (n : Int)), x] ∧ S' = [.lst (posD ps)] ∧ ps.length = i ∧ n ≤ r.length ∧ gr s r 0 = (gr (s.drop i) (r.drop n) n).map (ps ++ ·))
    ⟨[], 0, none, Nat.zero_le _, rfl, rfl, rfl, Nat.zero_le _, by simp⟩ (fun i c ρ S' hd hI => ?_) (fun ρ S' hI => ?_)
  · obtain ⟨ps, n, x, hi, rfl, rfl, hp, hn, hg⟩ := hI
    have hlt := (List.getElem?_eq_some_iff.mp hd).1
    have hdrop : s.drop i = c :: s.drop (i + 1) := by
      rw [List.drop_eq_getElem_cons hlt]
      rw [List.getElem?_eq_getElem hlt] at hd
      rw [Option.some.inj hd]
    rw [hdrop] at hg
    refine ⟨[some (.str s), some (.str r), some (.ref 0), some (.int (n : Int)), some (.str [c])], rfl, ?_⟩
    rw [wt_cons]
    simp only [ev, evs, evo, evT, evto, evF, evQ, evI, ex, wr_bind, wr_ok, wr_exc, wt_o, wt_seq, wt_turn, wt_next, wt_brk, wt_cont, wt_ret, wt_exc, Pl.R.bind_ok, Pl.R.o_ok, Pl.R.bind_exc, Pl.R.o_exc, List.getElem?_cons_zero, List.getElem?_cons_succ, List.set_cons_zero, List.set_cons_succ]
    rw [wt_cons]
    rcases find_one r c n hn with ⟨h1, h2⟩ | ⟨j, h1, h2, h3⟩
    · rw [h1]
      simp only [ev, evs, evo, evT, evto, evF, evQ, evI, ex, wr_bind, wr_ok, wr_exc, wt_o, wt_seq, wt_turn, wt_next, wt_brk, wt_cont, wt_ret, wt_exc, Pl.R.bind_ok, Pl.R.o_ok, Pl.R.bind_exc, Pl.R.o_exc, List.getElem?_cons_zero, List.getElem?_cons_succ, List.set_cons_zero, List.set_cons_succ, c_lt]
      have : decide ((-1 : Int) < 0) = true := by decide
      rw [this]
      simp only [ev, evs, evo, evT, evto, evF, evQ, evI, ex, wr_bind, wr_ok, wr_exc, wt_o, wt_seq, wt_turn, wt_next, wt_brk, wt_cont, wt_ret, wt_exc, Pl.R.bind_ok, Pl.R.o_ok, Pl.R.bind_exc, Pl.R.o_exc, List.getElem?_cons_zero, List.getElem?_cons_succ, List.set_cons_zero, List.set_cons_succ]
      rw [wt_cons]
      simp only [ev, evs, evo, evT, evto, evF, evQ, evI, ex, wr_bind, wr_ok, wr_exc, wt_o, wt_seq, wt_turn, wt_next, wt_brk, wt_cont, wt_ret, wt_exc, Pl.R.bind_ok, Pl.R.o_ok, Pl.R.bind_exc, Pl.R.o_exc, List.getElem?_cons_zero, List.getElem?_cons_succ, List.set_cons_zero, List.set_cons_succ]
      rw [gr_none _ _ h2] at hg
      have hq : spotsD s r = .non := by unfold spotsD; rw [hg]; rfl
      rw [hq]
      exact frz_cl rfl
    · rw [h3]
      simp only [ev, evs, evo, evT, evto, evF, evQ, evI, ex, wr_bind, wr_ok, wr_exc, wt_o, wt_seq, wt_turn, wt_next, wt_brk, wt_cont, wt_ret, wt_exc, Pl.R.bind_ok, Pl.R.o_ok, Pl.R.bind_exc, Pl.R.o_exc, List.getElem?_cons_zero, List.getElem?_cons_succ, List.set_cons_zero, List.set_cons_succ, c_lt]
      have : decide (((n + j : Nat) : Int) < 0) = false := decide_eq_false (by omega)
      rw [this]
      simp only [ev, evs, evo, evT, evto, evF, evQ, evI, ex, wr_bind, wr_ok, wr_exc, wt_o, wt_seq, wt_turn, wt_next, wt_brk, wt_cont, wt_ret, wt_exc, Pl.R.bind_ok, Pl.R.o_ok, Pl.R.bind_exc, Pl.R.o_exc, List.getElem?_cons_zero, List.getElem?_cons_succ, List.set_cons_zero, List.set_cons_succ]
      rw [wt_nil]
      dsimp only
      rw [wt_cons]
      have hj := (List.getElem?_eq_some_iff.mp h1).1
      rw [List.length_drop] at hj
      have hl : (posD ps).length < lim := by simp [posD]; omega
      simp only [ev, evs, evo, evT, evto, evF, evQ, evI, ex, wr_bind, wr_ok, wr_exc, wt_o, wt_seq, wt_turn, wt_next, wt_brk, wt_cont, wt_ret, wt_exc, Pl.R.bind_ok, Pl.R.o_ok, Pl.R.bind_exc, Pl.R.o_exc, List.getElem?_cons_zero, List.getElem?_cons_succ, List.set_cons_zero, List.set_cons_succ, hl, if_true]
      rw [wt_cons]
      simp only [ev, evs, evo, evT, evto, evF, evQ, evI, ex, wr_bind, wr_ok, wr_exc, wt_o, wt_seq, wt_turn, wt_next, wt_brk, wt_cont, wt_ret, wt_exc, Pl.R.bind_ok, Pl.R.o_ok, Pl.R.bind_exc, Pl.R.o_exc, List.getElem?_cons_zero, List.getElem?_cons_succ, List.set_cons_zero, List.set_cons_succ, a_add]
      rw [wt_nil]
      refine ⟨ps ++ [n + j], n + j + 1, some (.str [c]), by omega, ?_, ?_, by simp [hp], by omega, ?_⟩
      · rw [show ((n + j : Nat) : Int) + 1 = ((n + j + 1 : Nat) : Int) by omega]
      · unfold posD
        rw [List.map_append]
        rfl
      · rw [hg, gr_at _ _ j h1 h2, Option.map_map, List.drop_drop]
        rw [show n + (j + 1) = n + j + 1 by omega]
        congr 1
        funext z
        simp
  · obtain ⟨ps, n, x, hi, rfl, rfl, hp, hn, hg⟩ := hI
    dsimp only
    rw [wt_cons]
    simp only [ev, evs, evo, evT, evto, evF, evQ, evI, ex, wr_bind, wr_ok, wr_exc, wt_o, wt_seq, wt_turn, wt_next, wt_brk, wt_cont, wt_ret, wt_exc, Pl.R.bind_ok, Pl.R.o_ok, Pl.R.bind_exc, Pl.R.o_exc, List.getElem?_cons_zero, List.getElem?_cons_succ, List.set_cons_zero, List.set_cons_succ]
    rw [List.drop_length] at hg
    have hg2 : gr s r 0 = some ps := by
      rw [hg]
      cases r.drop n <;> simp [gr]
    have hq : spotsD s r = .fro (posD ps) := by unfold spotsD; rw [hg2]
    rw [hq]
    exact frz_lst (Nat.zero_le _) rfl (closedL_map fun _ => rfl)
theorem gr_sub : ∀ (g s : List Nat) (k : Nat), (gr s g k).isSome = s.isSublist g
  | g, [], k => by simp [gr, List.isSublist]
  | [], c :: s, k => by simp [gr, List.isSublist]
  | d :: g, c :: s, k => by
    simp only [gr, List.isSublist]
    by_cases e : d = c
    · subst e
      simp only [if_true, beq_self_eq_true, Option.isSome_map]
      exact gr_sub g s (k + 1)
    · have e2 : (c == d) = false := by simpa using Ne.symm e
      simp only [if_neg e, e2]
      exact gr_sub g (c :: s) (k + 1)
def SpWithin (C : Nat → List D → Sto → R D) : Prop := ∀ (s g : List Nat) (S : Sto), s.length < lim → scp 0 false (C 1) [.str s, .str g] S = .ok (.bl (s.isSublist g)) S
theorem within_ok (hT : T 1 = some f_within) {k : Nat} (h : SpSpots (run T G k)) : SpWithin (run T G (k + 1)) := fun s r S hs => by
  refine pur hT rfl rfl ?_ S
  show Wt (exs _ _ f_within.body [some (.str s), some (.str r)] []) _
  unfold f_within
  rw [wt_cons]
  simp only [ev, evs, evo, evT, evto, evF, evQ, evI, ex, wr_bind, wr_ok, wr_exc, wt_o, wt_seq, wt_turn, wt_next, wt_brk, wt_cont, wt_ret, wt_exc, Pl.R.bind_ok, Pl.R.o_ok, Pl.R.bind_exc, Pl.R.o_exc, List.getElem?_cons_zero, List.getElem?_cons_succ, List.set_cons_zero, List.set_cons_succ, h s r [] hs, c_notN]
  have e : (!isNn (spotsD s r)) = s.isSublist r := by
    rw [← gr_sub r s 0]
    unfold spotsD
    cases gr s r 0 <;> rfl
  rw [e]
  exact frz_cl rfl
/-! ### drawing -/
def SpPull (C : Nat → List D → Sto → R D) : Prop := ∀ (B : Bg) (m : Int) (S : Sto) (P : D → Sto → Prop) (X : Xc → Sto → Prop), 0 < m → m < 2 ^ 30 → (∀ (r : Int) (B' : Bg), 0 ≤ r → r < m → P (.int r) (B'.on S)) → Wr (scp 2 false (C 2) [.ref 1, .int m] (B.on S)) P X
theorem pull_ok (hT : T 2 = some f__law_pull) (k : Nat) : SpPull (run T G (k + 1)) := fun B m S P X hm hm2 h => by
  refine bag hT rfl rfl ?_
  have hm3 : (0 : Int) < m ∧ m < 1073741824 := ⟨hm, by simpa using hm2⟩
  have hmo : ∀ x : Int, 0 ≤ x % m ∧ x % m < m := fun x => ⟨Int.emod_nonneg _ (by omega), Int.emod_lt_of_pos _ hm⟩
  obtain ⟨cs, i1, i2, i3, i4, nn⟩ := B
  show Wt (exs _ _ f__law_pull.body [some (.ref 1), some (.int m), none, none, none, none] [.lst (cs.map D.int), .lst [.ref 0, .int i1, .int i2, .int i3, .int i4]]) _
  have fin : ∀ (j1 j2 j3 j4 x : Int), 0 ≤ j1 → ∃ (B' : Bg) (S2 : Sto) (d : D), [Ob.lst (cs.map D.int), .lst [.ref 0, .int j1, .int j2, .int j3, .int j4]] = B'.on S2 ∧ frz [Ob.lst (cs.map D.int), .lst [.ref 0, .int j1, .int j2, .int j3, .int j4]] 2 6 (.int (x % m)) = some d ∧ P d (B'.on S) := fun j1 j2 j3 j4 x hj =>
    ⟨⟨cs, j1, j2, j3, j4, hj⟩, [], _, rfl, frz_cl rfl, h _ _ (hmo x).1 (hmo x).2⟩
  unfold f__law_pull
  rw [wt_cons]
  have g4 : getIV (.ref 1) (.int 4) [.lst (cs.map D.int), .lst [.ref 0, .int i1, .int i2, .int i3, .int i4]] = .ok (.int i4) [.lst (cs.map D.int), .lst [.ref 0, .int i1, .int i2, .int i3, .int i4]] := rfl
  have s4 : ∀ d, setIV (.ref 1) (.int 4) d [.lst (cs.map D.int), .lst [.ref 0, .int i1, .int i2, .int i3, .int i4]] = .ok () [.lst (cs.map D.int), .lst [.ref 0, .int i1, .int i2, .int i3, d]] := fun d => rfl
  simp only [ev, evs, evo, evT, evto, evF, evQ, evI, ex, wr_bind, wr_ok, wr_exc, wt_o, wt_seq, wt_turn, wt_next, wt_brk, wt_cont, wt_ret, wt_exc, Pl.R.bind_ok, Pl.R.o_ok, Pl.R.bind_exc, Pl.R.o_exc, List.getElem?_cons_zero, List.getElem?_cons_succ, List.set_cons_zero, List.set_cons_succ, g4, s4, a_add]
  have gx : ∀ (i1 i2 i3 i4 : Int), let S := [Ob.lst (cs.map D.int), .lst [.ref 0, .int i1, .int i2, .int i3, .int i4]]
      (idxV (.ref 1) (.int 0) S = .ok (.ref 0) S) ∧ (idxV (.ref 1) (.int 1) S = .ok (.int i1) S) ∧ (idxV (.ref 1) (.int 2) S = .ok (.int i2) S) ∧ (idxV (.ref 1) (.int 3) S = .ok (.int i3) S) ∧ (idxV (.ref 1) (.int 4) S = .ok (.int i4) S) ∧ lenV (.ref 0) S = .ok (.int cs.length) S ∧
      (∀ d, setIV (.ref 1) (.int 2) d S = .ok () [Ob.lst (cs.map D.int), .lst [.ref 0, .int i1, d, .int i3, .int i4]]) ∧ (∀ d, setIV (.ref 1) (.int 3) d S = .ok () [Ob.lst (cs.map D.int), .lst [.ref 0, .int i1, .int i2, d, .int i4]]) := fun i1 i2 i3 i4 => by
    refine ⟨rfl, rfl, rfl, rfl, rfl, ?_, fun _ => rfl, fun _ => rfl⟩
    rw [len_lst (ds := cs.map D.int) rfl, List.length_map]
  rw [wt_cons]
  obtain ⟨y0, y1, y2, y3, y4, yl, z2, z3⟩ := gx i1 i2 i3 (i4 + 1)
  simp only [ev, evs, evo, evT, evto, evF, evQ, evI, ex, wr_bind, wr_ok, wr_exc, wt_o, wt_seq, wt_turn, wt_next, wt_brk, wt_cont, wt_ret, wt_exc, Pl.R.bind_ok, Pl.R.o_ok, Pl.R.bind_exc, Pl.R.o_exc, List.getElem?_cons_zero, List.getElem?_cons_succ, List.set_cons_zero, List.set_cons_succ, y2, c_gt]
  by_cases h2 : 0 < i2
  · simp only [h2, decide_true]
    rw [wt_cons]
    simp only [ev, evs, evo, evT, evto, evF, evQ, evI, ex, wr_bind, wr_ok, wr_exc, wt_o, wt_seq, wt_turn, wt_next, wt_brk, wt_cont, wt_ret, wt_exc, Pl.R.bind_ok, Pl.R.o_ok, Pl.R.bind_exc, Pl.R.o_exc, List.getElem?_cons_zero, List.getElem?_cons_succ, List.set_cons_zero, List.set_cons_succ, y2]
    rw [wt_cons]
    simp only [ev, evs, evo, evT, evto, evF, evQ, evI, ex, wr_bind, wr_ok, wr_exc, wt_o, wt_seq, wt_turn, wt_next, wt_brk, wt_cont, wt_ret, wt_exc, Pl.R.bind_ok, Pl.R.o_ok, Pl.R.bind_exc, Pl.R.o_exc, List.getElem?_cons_zero, List.getElem?_cons_succ, List.set_cons_zero, List.set_cons_succ, v_fdiv hm3.1 hm3.2, z2]
    rw [wt_cons]
    simp only [ev, evs, evo, evT, evto, evF, evQ, evI, ex, wr_bind, wr_ok, wr_exc, wt_o, wt_seq, wt_turn, wt_next, wt_brk, wt_cont, wt_ret, wt_exc, Pl.R.bind_ok, Pl.R.o_ok, Pl.R.bind_exc, Pl.R.o_exc, List.getElem?_cons_zero, List.getElem?_cons_succ, List.set_cons_zero, List.set_cons_succ, v_mod hm3.1]
    exact fin _ _ _ _ _ nn
  simp only [h2, decide_false]
  rw [wt_nil]
  simp only [ev, evs, evo, evT, evto, evF, evQ, evI, ex, wr_bind, wr_ok, wr_exc, wt_o, wt_seq, wt_turn, wt_next, wt_brk, wt_cont, wt_ret, wt_exc, Pl.R.bind_ok, Pl.R.o_ok, Pl.R.bind_exc, Pl.R.o_exc, List.getElem?_cons_zero, List.getElem?_cons_succ, List.set_cons_zero, List.set_cons_succ]
  rw [wt_cons]
  simp only [ev, evs, evo, evT, evto, evF, evQ, evI, ex, wr_bind, wr_ok, wr_exc, wt_o, wt_seq, wt_turn, wt_next, wt_brk, wt_cont, wt_ret, wt_exc, Pl.R.bind_ok, Pl.R.o_ok, Pl.R.bind_exc, Pl.R.o_exc, List.getElem?_cons_zero, List.getElem?_cons_succ, List.set_cons_zero, List.set_cons_succ, y3]
  rw [wt_cons]
  simp only [ev, evs, evo, evT, evto, evF, evQ, evI, ex, wr_bind, wr_ok, wr_exc, wt_o, wt_seq, wt_turn, wt_next, wt_brk, wt_cont, wt_ret, wt_exc, Pl.R.bind_ok, Pl.R.o_ok, Pl.R.bind_exc, Pl.R.o_exc, List.getElem?_cons_zero, List.getElem?_cons_succ, List.set_cons_zero, List.set_cons_succ, y1, y0, yl, c_lt]
  have rest : ∀ (j1 cell : Int), 0 ≤ j1 → Wt (exs (run T G k) G (f__law_pull.body.drop 4) [some (.ref 1), some (.int m), some (.int cell), none, none, none] [.lst (cs.map D.int), .lst [.ref 0, .int j1, .int i2, .int i3, .int (i4 + 1)]]) ⟨fun _ S1 => ∃ (B' : Bg) (S2 : Sto), S1 = B'.on S2 ∧ P .non (B'.on S), no2, no2, fun v S1 => ∃ (B' : Bg) (S2 : Sto) (d : D), S1 = B'.on S2 ∧ frz S1 2 6 v = some d ∧ P d (B'.on S), no2⟩ := by
    intro j1 cell hj
    obtain ⟨y0, y1, y2, y3, y4, yl, z2, z3⟩ := gx j1 i2 i3 (i4 + 1)
    simp only [f__law_pull, List.drop_succ_cons, List.drop_zero]
    rw [wt_cons]
    simp only [ev, evs, evo, evT, evto, evF, evQ, evI, ex, wr_bind, wr_ok, wr_exc, wt_o, wt_seq, wt_turn, wt_next, wt_brk, wt_cont, wt_ret, wt_exc, Pl.R.bind_ok, Pl.R.o_ok, Pl.R.bind_exc, Pl.R.o_exc, List.getElem?_cons_zero, List.getElem?_cons_succ, List.set_cons_zero, List.set_cons_succ, v_pow18, c_ge]
    by_cases h3 : 1000000000000000000 ≤ cell
    · simp only [h3, decide_true]
      rw [wt_cons]
      simp only [ev, evs, evo, evT, evto, evF, evQ, evI, ex, wr_bind, wr_ok, wr_exc, wt_o, wt_seq, wt_turn, wt_next, wt_brk, wt_cont, wt_ret, wt_exc, Pl.R.bind_ok, Pl.R.o_ok, Pl.R.bind_exc, Pl.R.o_exc, List.getElem?_cons_zero, List.getElem?_cons_succ, List.set_cons_zero, List.set_cons_succ, v_fdiv hm3.1 hm3.2, z2]
      rw [wt_cons]
      simp only [ev, evs, evo, evT, evto, evF, evQ, evI, ex, wr_bind, wr_ok, wr_exc, wt_o, wt_seq, wt_turn, wt_next, wt_brk, wt_cont, wt_ret, wt_exc, Pl.R.bind_ok, Pl.R.o_ok, Pl.R.bind_exc, Pl.R.o_exc, List.getElem?_cons_zero, List.getElem?_cons_succ, List.set_cons_zero, List.set_cons_succ, v_mod hm3.1]
      exact fin _ _ _ _ _ hj
    simp only [h3, decide_false]
    rw [wt_nil]
    simp only [ev, evs, evo, evT, evto, evF, evQ, evI, ex, wr_bind, wr_ok, wr_exc, wt_o, wt_seq, wt_turn, wt_next, wt_brk, wt_cont, wt_ret, wt_exc, Pl.R.bind_ok, Pl.R.o_ok, Pl.R.bind_exc, Pl.R.o_exc, List.getElem?_cons_zero, List.getElem?_cons_succ, List.set_cons_zero, List.set_cons_succ]
    rw [wt_cons]
    simp (disch := omega) only [ev, evs, evo, evT, evto, evF, evQ, evI, ex, wr_bind, wr_ok, wr_exc, wt_o, wt_seq, wt_turn, wt_next, wt_brk, wt_cont, wt_ret, wt_exc, Pl.R.bind_ok, Pl.R.o_ok, Pl.R.bind_exc, Pl.R.o_exc, List.getElem?_cons_zero, List.getElem?_cons_succ, List.set_cons_zero, List.set_cons_succ, v_mul, v_add, v_mod, y3, y4]
    rw [wt_cons]
    generalize (cell * 48271 + i3 * 40503 + (i4 + 1) * 69621 + 12345) % 2147483629 = one
    simp (disch := omega) only [ev, evs, evo, evT, evto, evF, evQ, evI, ex, wr_bind, wr_ok, wr_exc, wt_o, wt_seq, wt_turn, wt_next, wt_brk, wt_cont, wt_ret, wt_exc, Pl.R.bind_ok, Pl.R.o_ok, Pl.R.bind_exc, Pl.R.o_exc, List.getElem?_cons_zero, List.getElem?_cons_succ, List.set_cons_zero, List.set_cons_succ, v_mul, v_add, v_mod, y3, y4]
    rw [wt_cons]
    simp (disch := omega) only [ev, evs, evo, evT, evto, evF, evQ, evI, ex, wr_bind, wr_ok, wr_exc, wt_o, wt_seq, wt_turn, wt_next, wt_brk, wt_cont, wt_ret, wt_exc, Pl.R.bind_ok, Pl.R.o_ok, Pl.R.bind_exc, Pl.R.o_exc, List.getElem?_cons_zero, List.getElem?_cons_succ, List.set_cons_zero, List.set_cons_succ, v_mul, v_add, v_mod, y3, y4, z3]
    rw [wt_cons]
    simp (disch := omega) only [ev, evs, evo, evT, evto, evF, evQ, evI, ex, wr_bind, wr_ok, wr_exc, wt_o, wt_seq, wt_turn, wt_next, wt_brk, wt_cont, wt_ret, wt_exc, Pl.R.bind_ok, Pl.R.o_ok, Pl.R.bind_exc, Pl.R.o_exc, List.getElem?_cons_zero, List.getElem?_cons_succ, List.set_cons_zero, List.set_cons_succ, v_fdiv, v_mod]
    exact fin _ _ _ _ _ hj
  by_cases h4 : i1 < cs.length
  · simp only [h4, decide_true]
    obtain ⟨d, q1, q2⟩ := atI_in (xs := cs.map D.int) nn (by simpa using h4)
    have q3 : idxV (.ref 0) (.int i1) [.lst (cs.map D.int), .lst [.ref 0, .int i1, .int i2, .int i3, .int (i4 + 1)]] = .ok d [.lst (cs.map D.int), .lst [.ref 0, .int i1, .int i2, .int i3, .int (i4 + 1)]] := idxV_lst rfl q1
    have q4 : ∃ n, d = .int n := by
      rw [List.getElem?_map] at q2
      cases e : cs[i1.toNat]? with
      | none => rw [e] at q2; cases q2
      | some n => rw [e] at q2; cases q2; exact ⟨n, rfl⟩
    obtain ⟨n, rfl⟩ := q4
    rw [wt_cons]
    simp only [ev, evs, evo, evT, evto, evF, evQ, evI, ex, wr_bind, wr_ok, wr_exc, wt_o, wt_seq, wt_turn, wt_next, wt_brk, wt_cont, wt_ret, wt_exc, Pl.R.bind_ok, Pl.R.o_ok, Pl.R.bind_exc, Pl.R.o_exc, List.getElem?_cons_zero, List.getElem?_cons_succ, List.set_cons_zero, List.set_cons_succ, y0, y1, q3]
    rw [wt_cons]
    have g1 : getIV (.ref 1) (.int 1) [.lst (cs.map D.int), .lst [.ref 0, .int i1, .int i2, .int i3, .int (i4 + 1)]] = .ok (.int i1) [.lst (cs.map D.int), .lst [.ref 0, .int i1, .int i2, .int i3, .int (i4 + 1)]] := rfl
    have s1 : ∀ d, setIV (.ref 1) (.int 1) d [.lst (cs.map D.int), .lst [.ref 0, .int i1, .int i2, .int i3, .int (i4 + 1)]] = .ok () [.lst (cs.map D.int), .lst [.ref 0, d, .int i2, .int i3, .int (i4 + 1)]] := fun d => rfl
    simp only [ev, evs, evo, evT, evto, evF, evQ, evI, ex, wr_bind, wr_ok, wr_exc, wt_o, wt_seq, wt_turn, wt_next, wt_brk, wt_cont, wt_ret, wt_exc, Pl.R.bind_ok, Pl.R.o_ok, Pl.R.bind_exc, Pl.R.o_exc, List.getElem?_cons_zero, List.getElem?_cons_succ, List.set_cons_zero, List.set_cons_succ, g1, a_add, s1]
    rw [wt_nil]
    exact rest _ _ (by omega)
  · simp only [h4, decide_false]
    rw [wt_nil]
    exact rest _ _ nn
end
end Pl

set_option maxHeartbeats 4000000
/-! Shared defs: drawn letters, names, words. -/
namespace Pl
open PySem L2
section
variable {T : Tab} {G : Nat → Option D} {C : Nat → List D → Sto → R D}
def SpOf (C : Nat → List D → Sto → R D) : Prop := (∀ (B : Bg) (ds : List D) (S : Sto) (P : D → Sto → Prop) (X : Xc → Sto → Prop), 0 < ds.length → ds.length ≤ 100000 → closedL 2 ds = true → (∀ (d : D) (B' : Bg), d ∈ ds → P d (B'.on S)) → Wr (scp 2 false (C 4) [.ref 1, .fro ds] (B.on S)) P X) ∧
  (∀ (B : Bg) (xs : List Nat) (S : Sto) (P : D → Sto → Prop) (X : Xc → Sto → Prop), 0 < xs.length → xs.length ≤ 100000 → (∀ (c : Nat) (B' : Bg), c ∈ xs → P (.str [c]) (B'.on S)) → Wr (scp 2 false (C 4) [.ref 1, .str xs] (B.on S)) P X)
theorem of_ok (hT : T 4 = some f__law_of) {k : Nat} (h : SpPull (run T G k)) : SpOf (run T G (k + 1)) := by
  refine ⟨fun B ds S P X h1 h2 hc hp => ?_, fun B xs S P X h1 h2 hp => ?_⟩
  · refine bag hT rfl (by show (closedL 2 ds && true) = true; rw [hc]; rfl) ?_
    show Wt (exs _ _ f__law_of.body [some (.ref 1), some (.fro ds)] (B.on [])) _
    unfold f__law_of
    rw [wt_cons]
    simp only [ev, evs, evo, evT, evto, evF, evQ, evI, ex, wr_bind, wr_ok, wr_exc, wt_o, wt_seq, wt_turn, wt_next, wt_brk, wt_cont, wt_ret, wt_exc, Pl.R.bind_ok, Pl.R.o_ok, Pl.R.bind_exc, Pl.R.o_exc, List.getElem?_cons_zero, List.getElem?_cons_succ, List.set_cons_zero, List.set_cons_succ, len_fro]
    refine h B _ _ _ _ (by omega) (by omega) fun r B' h0 h1 => ?_
    obtain ⟨d, q1, q2⟩ := atI_in (xs := ds) h0 h1
    rw [idxV_fro q1]
    have hm := List.mem_of_getElem? q2
    rw [closedL_all, List.all_eq_true] at hc
    exact ⟨B', [], d, rfl, frz_cl (hc d hm), hp d B' hm⟩
  · refine bag hT rfl rfl ?_
    show Wt (exs _ _ f__law_of.body [some (.ref 1), some (.str xs)] (B.on [])) _
    unfold f__law_of
    rw [wt_cons]
    simp only [ev, evs, evo, evT, evto, evF, evQ, evI, ex, wr_bind, wr_ok, wr_exc, wt_o, wt_seq, wt_turn, wt_next, wt_brk, wt_cont, wt_ret, wt_exc, Pl.R.bind_ok, Pl.R.o_ok, Pl.R.bind_exc, Pl.R.o_exc, List.getElem?_cons_zero, List.getElem?_cons_succ, List.set_cons_zero, List.set_cons_succ, len_str (show xs.length ≤ lim from h2)]
    refine h B _ _ _ _ (by omega) (by omega) fun r B' h0 h1 => ?_
    have hr : r = ((r.toNat : Nat) : Int) := by omega
    have hx : xs[r.toNat]? = some xs[r.toNat] := List.getElem?_eq_getElem (by omega)
    rw [hr, idx_str h2 hx]
    exact ⟨B', [], _, rfl, frz_cl rfl, hp _ B' (List.mem_of_getElem? hx)⟩
theorem SpOf.map (h : SpOf C) {α : Type} {as : List α} {e : α → D} {B : Bg} {S : Sto} {P : D → Sto → Prop} {X : Xc → Sto → Prop} (h1 : 0 < as.length) (h2 : as.length ≤ 100000) (hc : ∀ a, closedD 2 (e a) = true) (k : ∀ (a : α) (B' : Bg), a ∈ as → P (e a) (B'.on S)) : Wr (scp 2 false (C 4) [.ref 1, .fro (as.map e)] (B.on S)) P X :=
  h.1 B _ S P X (by simpa using h1) (by simpa using h2) (closedL_map hc) fun d B' hd => by
    obtain ⟨a, ha, rfl⟩ := List.mem_map.mp hd
    exact k a B' ha
def Lett (xs : List Nat) : Prop := ∀ x ∈ xs, x ∈ alph
theorem alph_of {i : Int} (h0 : 0 ≤ i) (h1 : i < 26) {S : Sto} : idxV (.str alph) (.int i) S = .ok (.str [97 + i.toNat]) S := by
  have hi : i = ((i.toNat : Nat) : Int) := by omega
  have hl : i.toNat < 26 := by omega
  have key : ∀ n : Fin 26, alph[n.val]? = some (97 + n.val) := by decide
  rw [hi, idx_str (show alph.length ≤ 100000 by decide) (key ⟨i.toNat, hl⟩)]
  rfl
theorem in_alph_of {i : Nat} (h : i < 26) : 97 + i ∈ alph := by
  have key : ∀ n : Fin 26, 97 + n.val ∈ alph := by decide
  exact key ⟨i, h⟩
/-- the k-th sign of a row of unlike letters -/
def lx (f b : Int) (k : Nat) : Nat := 97 + ((f + b * k) % 26).toNat
theorem lx_in {f b : Int} {k : Nat} : lx f b k ∈ alph := in_alph_of (by omega)
theorem lx_idx {f b : Int} {k : Nat} {S : Sto} : idxV (.str alph) (.int ((f + b * (k : Int)) % 26)) S = .ok (.str [lx f b k]) S := alph_of (by omega) (by omega)
def bys : List Int := [1, 3, 5, 7, 9, 11]
def one (c : Nat) : D := .str [c]
def SpLetters (C : Nat → List D → Sto → R D) : Prop := ∀ (B : Bg) (S : Sto) (P : D → Sto → Prop) (X : Xc → Sto → Prop), (∀ (f b : Int) (B' : Bg), 0 ≤ f → f < 26 → b ∈ bys → P (.fro (((List.range 3).map (lx f b)).map one)) (B'.on S)) → Wr (scp 2 false (C 6) [.ref 1] (B.on S)) P X
theorem bys_abs {b : Int} (h : b ∈ bys) : 0 ≤ b ∧ b < 12 := by
  simp only [bys, List.mem_cons, List.not_mem_nil, or_false] at h
  omega
theorem letters_ok (hT : T 6 = some f__law_letters) {k : Nat} (hp : SpPull (run T G k)) (ho : SpOf (run T G k)) : SpLetters (run T G (k + 1)) := fun B S P X h => by
  refine bag hT rfl rfl ?_
  show Wt (exs _ _ f__law_letters.body [some (.ref 1), none, none, none, none] (B.on [])) _
  unfold f__law_letters
  rw [wt_cons]
  simp only [ev, evs, evo, evT, evto, evF, evQ, evI, ex, wr_bind, wr_ok, wr_exc, wt_o, wt_seq, wt_turn, wt_next, wt_brk, wt_cont, wt_ret, wt_exc, Pl.R.bind_ok, Pl.R.o_ok, Pl.R.bind_exc, Pl.R.o_exc, List.getElem?_cons_zero, List.getElem?_cons_succ, List.set_cons_zero, List.set_cons_succ]
  rw [wt_cons]
  simp only [ev, evs, evo, evT, evto, evF, evQ, evI, ex, wr_bind, wr_ok, wr_exc, wt_o, wt_seq, wt_turn, wt_next, wt_brk, wt_cont, wt_ret, wt_exc, Pl.R.bind_ok, Pl.R.o_ok, Pl.R.bind_exc, Pl.R.o_exc, List.getElem?_cons_zero, List.getElem?_cons_succ, List.set_cons_zero, List.set_cons_succ]
  refine hp B _ _ _ _ (by decide) (by decide) fun f B1 f0 f1 => ?_
  rw [wt_cons]
  simp only [ev, evs, evo, evT, evto, evF, evQ, evI, ex, wr_bind, wr_ok, wr_exc, wt_o, wt_seq, wt_turn, wt_next, wt_brk, wt_cont, wt_ret, wt_exc, Pl.R.bind_ok, Pl.R.o_ok, Pl.R.bind_exc, Pl.R.o_exc, List.getElem?_cons_zero, List.getElem?_cons_succ, List.set_cons_zero, List.set_cons_succ, List.length_cons, List.length_nil]
  rw [if_pos (by decide)]
  simp only [ev, evs, evo, evT, evto, evF, evQ, evI, ex, wr_bind, wr_ok, wr_exc, wt_o, wt_seq, wt_turn, wt_next, wt_brk, wt_cont, wt_ret, wt_exc, Pl.R.bind_ok, Pl.R.o_ok, Pl.R.bind_exc, Pl.R.o_exc, List.getElem?_cons_zero, List.getElem?_cons_succ, List.set_cons_zero, List.set_cons_succ]
  refine ho.1 B1 _ _ _ _ (by decide) (by decide) rfl fun d B2 hd => ?_
  have hb : ∃ b ∈ bys, d = .int b := by
    simp only [List.mem_cons, List.not_mem_nil, or_false] at hd
    rcases hd with rfl | rfl | rfl | rfl | rfl | rfl <;> exact ⟨_, by decide, rfl⟩
  obtain ⟨b, hb, rfl⟩ := hb
  have hb2 := bys_abs hb
  rw [wt_cons]
  simp only [ev, evs, evo, evT, evto, evF, evQ, evI, ex, wr_bind, wr_ok, wr_exc, wt_o, wt_seq, wt_turn, wt_next, wt_brk, wt_cont, wt_ret, wt_exc, Pl.R.bind_ok, Pl.R.o_ok, Pl.R.bind_exc, Pl.R.o_exc, List.getElem?_cons_zero, List.getElem?_cons_succ, List.set_cons_zero, List.set_cons_succ]
  rw [if_pos (by decide)]
  simp only [ev, evs, evo, evT, evto, evF, evQ, evI, ex, wr_bind, wr_ok, wr_exc, wt_o, wt_seq, wt_turn, wt_next, wt_brk, wt_cont, wt_ret, wt_exc, Pl.R.bind_ok, Pl.R.o_ok, Pl.R.bind_exc, Pl.R.o_exc, List.getElem?_cons_zero, List.getElem?_cons_succ, List.set_cons_zero, List.set_cons_succ]
  rw [if_pos (by decide)]
  rw [lc_map (S := B2.on []) (e := fun k : Nat => D.int (k : Int)) (fun k => one (lx f b k)) (List.range (Int.toNat 3)) (fun k hk => ?_)]
  · simp only [ev, evs, evo, evT, evto, evF, evQ, evI, ex, wr_bind, wr_ok, wr_exc, wt_o, wt_seq, wt_turn, wt_next, wt_brk, wt_cont, wt_ret, wt_exc, Pl.R.bind_ok, Pl.R.o_ok, Pl.R.bind_exc, Pl.R.o_exc, List.getElem?_cons_zero, List.getElem?_cons_succ, List.set_cons_zero, List.set_cons_succ]
    refine ⟨B2, [], _, rfl, frz_cl (closedL_map fun _ => rfl), ?_⟩
    have := h f b B2 f0 f1 hb
    rw [List.map_map] at this
    exact this
  · have hk3 : k < 3 := List.mem_range.mp hk
    simp (disch := omega) only [List.map_cons, List.map_nil, wipeD, bindTg, ev, evs, evo, evT, evto, evF, evQ, evI, ex, wr_bind, wr_ok, wr_exc, wt_o, wt_seq, wt_turn, wt_next, wt_brk, wt_cont, wt_ret, wt_exc, Pl.R.bind_ok, Pl.R.o_ok, Pl.R.bind_exc, Pl.R.o_exc, List.getElem?_cons_zero, List.getElem?_cons_succ, List.set_cons_zero, List.set_cons_succ, v_mul, v_add, v_mod]
    rw [lx_idx]
    rfl
/-- a drawn name -/
def nmL (a c : List Nat) (f b : Int) (k : Nat) : List Nat := a ++ [lx f b k] ++ c
theorem nmL_len {a c : List Nat} {f b : Int} {k : Nat} : (nmL a c f b k).length = a.length + c.length + 1 := by
  simp [nmL]; omega
theorem nmL_lett {a c : List Nat} {f b : Int} {k : Nat} (ha : Lett a) (hc : Lett c) : Lett (nmL a c f b k) := fun x hx => by
  unfold nmL at hx
  rcases List.mem_append.mp hx with hx | hx
  · rcases List.mem_append.mp hx with hx | hx
    · exact ha x hx
    · have : x = lx f b k := by simpa using hx
      rw [this]
      exact lx_in
  · exact hc x hx
theorem lx_inj {f b : Int} (hb : b ∈ bys) {j k : Nat} (hj : j < 26) (hk : k < 26) (e : lx f b j = lx f b k) : j = k := by
  have e2 : (f + b * j) % 26 = (f + b * k) % 26 := by unfold lx at e; omega
  simp only [bys, List.mem_cons, List.not_mem_nil, or_false] at hb
  rcases hb with rfl | rfl | rfl | rfl | rfl | rfl <;> omega
theorem nmL_inj {a c : List Nat} {f b : Int} (hb : b ∈ bys) {j k : Nat} (hj : j < 26) (hk : k < 26) (e : nmL a c f b j = nmL a c f b k) : j = k := by
  unfold nmL at e
  have e1 : a ++ [lx f b j] = a ++ [lx f b k] := List.append_cancel_right e
  have e2 := List.append_cancel_left e1
  exact lx_inj hb hj hk (by simpa using e2)
def SpNames (C : Nat → List D → Sto → R D) : Prop := ∀ (B : Bg) (m : Int) (S : Sto) (P : D → Sto → Prop) (X : Xc → Sto → Prop), 0 ≤ m → m ≤ 26 → (∀ (a c : List Nat) (f b : Int) (B' : Bg), a.length + c.length ≤ 7 → Lett a → Lett c → b ∈ bys → P (.fro (((List.range m.toNat).map (nmL a c f b)).map D.str)) (B'.on S)) → Wr (scp 2 false (C 5) [.ref 1, .int m] (B.on S)) P X
theorem join_drawn {n : Nat} {xs : List D} (hl : xs.length = n) (hx : ∀ x ∈ xs, ∃ c, x = one c) : ∃ cs : List Nat, xs = cs.map one ∧ cs.length = n := by
  induction xs generalizing n with
  | nil => exact ⟨[], rfl, hl⟩
  | cons x xs ih =>
    obtain ⟨c, rfl⟩ := hx x (List.mem_cons_self ..)
    obtain ⟨cs, h1, h2⟩ := ih rfl fun y hy => hx y (List.mem_cons_of_mem _ hy)
    exact ⟨c :: cs, by rw [h1]; rfl, by rw [← hl]; simp [h2]⟩
/-- a text joined of drawn letters -/
theorem draw_text {Q : Nat → Prop} {f : D → Sto → R (Option D)} {n : Nat} {B : Bg} {S : Sto} {P : D → Sto → Prop} {X : Xc → Sto → Prop} (hn : n ≤ 1000) (hf : ∀ (k : Nat) (B : Bg), k < n → Wr (f (.int (k : Int)) (B.on S)) (fun o S' => ∃ (c : Nat) (B' : Bg), o = some (one c) ∧ Q c ∧ S' = B'.on S) no2)
    (h : ∀ (w : List Nat) (B' : Bg), w.length = n → (∀ c ∈ w, Q c) → P (.str w) (B'.on S)) :
    Wr (lcL [] f ((List.range n).map fun k => D.int (k : Nat)) (B.on S)) (fun ds S' => Wr (match strsD (Sv.mk ds [] false).ds with
      | some xs => if (xs.map List.length).sum + xs.length * 0 ≤ lim then R.ok (D.str (joinL [] xs)) S' else .bad
      | none => .bad) P X) X := by
  refine lc_inv (fun i acc S' => ∃ (w : List Nat) (B' : Bg), acc = w.map one ∧ w.length = i ∧ (∀ c ∈ w, Q c) ∧ S' = B'.on S) ⟨[], B, rfl, rfl, (fun _ z => nomatch z), rfl⟩ (fun i d acc S' hd hI => ?_) (fun _ _ _ _ _ _ _ _ n hn => nomatch hn) fun acc S' hI => ?_
  · obtain ⟨w, B', rfl, hw, hq, rfl⟩ := hI
    rw [List.getElem?_map] at hd
    cases e : (List.range n)[i]? with
    | none => rw [e] at hd; cases hd
    | some k =>
      rw [e] at hd
      cases hd
      have hk := List.mem_range.mp (List.mem_of_getElem? e)
      refine (hf k B' hk).mono (fun o S2 ⟨c, B2, h1, h2, h3⟩ => ?_) fun _ _ z => z
      subst h1 h3
      refine ⟨w ++ [c], B2, by simp, by simp [hw], fun x hx => ?_, rfl⟩
      rcases List.mem_append.mp hx with hx | hx
      · exact hq x hx
      · have : x = c := by simpa using hx
        rw [this]
        exact h2
  · obtain ⟨w, B', rfl, hw, hq, rfl⟩ := hI
    have hw2 : w.length = n := by rw [hw]; simp
    have hs : strsD (w.map one) = some (w.map fun c => [c]) := strs_of w
    simp only [hs]
    rw [sum_one, if_pos (by show w.length + _ * 0 ≤ 100000; omega)]
    have := h w B' hw2 hq
    rw [← join_one w] at this
    exact this
theorem names_ok (hT : T 5 = some f__law_names) {k : Nat} (hp : SpPull (run T G k)) (ho : SpOf (run T G k)) : SpNames (run T G (k + 1)) := fun B m S P X m0 m1 h => by
  refine bag hT rfl rfl ?_
  show Wt (exs _ _ f__law_names.body [some (.ref 1), some (.int m), none, none, none, none, none, none] (B.on [])) _
  unfold f__law_names
  rw [wt_cons]
  simp only [ev, evs, evo, evT, evto, evF, evQ, evI, ex, wr_bind, wr_ok, wr_exc, wt_o, wt_seq, wt_turn, wt_next, wt_brk, wt_cont, wt_ret, wt_exc, Pl.R.bind_ok, Pl.R.o_ok, Pl.R.bind_exc, Pl.R.o_exc, List.getElem?_cons_zero, List.getElem?_cons_succ, List.set_cons_zero, List.set_cons_succ]
  rw [wt_cons]
  simp only [ev, evs, evo, evT, evto, evF, evQ, evI, ex, wr_bind, wr_ok, wr_exc, wt_o, wt_seq, wt_turn, wt_next, wt_brk, wt_cont, wt_ret, wt_exc, Pl.R.bind_ok, Pl.R.o_ok, Pl.R.bind_exc, Pl.R.o_exc, List.getElem?_cons_zero, List.getElem?_cons_succ, List.set_cons_zero, List.set_cons_succ]
  refine hp B _ _ _ _ (by decide) (by decide) fun t B1 t0 t1 => ?_
  dsimp only
  rw [if_pos (by omega)]
  simp only [ev, evs, evo, evT, evto, evF, evQ, evI, ex, wr_bind, wr_ok, wr_exc, wt_o, wt_seq, wt_turn, wt_next, wt_brk, wt_cont, wt_ret, wt_exc, Pl.R.bind_ok, Pl.R.o_ok, Pl.R.bind_exc, Pl.R.o_exc, List.getElem?_cons_zero, List.getElem?_cons_succ, List.set_cons_zero, List.set_cons_succ]
  rw [if_pos (by rw [List.length_map, List.length_range]; show _ ≤ 100000; omega)]
  simp only [List.length_nil]
  refine draw_text (Q := fun c => c ∈ alph) (by omega) (fun j B hj => ?_) fun w B2 hw hq => ?_
  · simp only [List.map_cons, List.map_nil, wipeD, bindTg, ev, evs, evo, evT, evto, evF, evQ, evI, ex, wr_bind, wr_ok, wr_exc, wt_o, wt_seq, wt_turn, wt_next, wt_brk, wt_cont, wt_ret, wt_exc, Pl.R.bind_ok, Pl.R.o_ok, Pl.R.bind_exc, Pl.R.o_exc, List.getElem?_cons_zero, List.getElem?_cons_succ, List.set_cons_zero, List.set_cons_succ]
    refine ho.2 B _ _ _ _ (by decide) (by decide) fun c B' hc => ?_
    exact ⟨c, B', rfl, hc, rfl⟩
  have hw7 : w.length ≤ 7 := by omega
  rw [wt_cons]
  simp only [ev, evs, evo, evT, evto, evF, evQ, evI, ex, wr_bind, wr_ok, wr_exc, wt_o, wt_seq, wt_turn, wt_next, wt_brk, wt_cont, wt_ret, wt_exc, Pl.R.bind_ok, Pl.R.o_ok, Pl.R.bind_exc, Pl.R.o_exc, List.getElem?_cons_zero, List.getElem?_cons_succ, List.set_cons_zero, List.set_cons_succ, len_str (show w.length ≤ lim by show w.length ≤ 100000; omega), v_add]
  refine hp B2 _ _ _ _ (by omega) (by omega) fun at_ B3 a0 a1 => ?_
  rw [wt_cons]
  simp only [ev, evs, evo, evT, evto, evF, evQ, evI, ex, wr_bind, wr_ok, wr_exc, wt_o, wt_seq, wt_turn, wt_next, wt_brk, wt_cont, wt_ret, wt_exc, Pl.R.bind_ok, Pl.R.o_ok, Pl.R.bind_exc, Pl.R.o_exc, List.getElem?_cons_zero, List.getElem?_cons_succ, List.set_cons_zero, List.set_cons_succ]
  refine hp B3 _ _ _ _ (by decide) (by decide) fun f B4 f0 f1 => ?_
  rw [wt_cons]
  simp only [ev, evs, evo, evT, evto, evF, evQ, evI, ex, wr_bind, wr_ok, wr_exc, wt_o, wt_seq, wt_turn, wt_next, wt_brk, wt_cont, wt_ret, wt_exc, Pl.R.bind_ok, Pl.R.o_ok, Pl.R.bind_exc, Pl.R.o_exc, List.getElem?_cons_zero, List.getElem?_cons_succ, List.set_cons_zero, List.set_cons_succ, List.length_cons, List.length_nil]
  rw [if_pos (by decide)]
  simp only [ev, evs, evo, evT, evto, evF, evQ, evI, ex, wr_bind, wr_ok, wr_exc, wt_o, wt_seq, wt_turn, wt_next, wt_brk, wt_cont, wt_ret, wt_exc, Pl.R.bind_ok, Pl.R.o_ok, Pl.R.bind_exc, Pl.R.o_exc, List.getElem?_cons_zero, List.getElem?_cons_succ, List.set_cons_zero, List.set_cons_succ]
  refine ho.1 B4 _ _ _ _ (by decide) (by decide) rfl fun d B5 hd => ?_
  have hb : ∃ b ∈ bys, d = .int b := by
    simp only [List.mem_cons, List.not_mem_nil, or_false] at hd
    rcases hd with rfl | rfl | rfl | rfl | rfl | rfl <;> exact ⟨_, by decide, rfl⟩
  obtain ⟨b, hb, rfl⟩ := hb
  have hb2 := bys_abs hb
  rw [wt_cons]
  simp only [ev, evs, evo, evT, evto, evF, evQ, evI, ex, wr_bind, wr_ok, wr_exc, wt_o, wt_seq, wt_turn, wt_next, wt_brk, wt_cont, wt_ret, wt_exc, Pl.R.bind_ok, Pl.R.o_ok, Pl.R.bind_exc, Pl.R.o_exc, List.getElem?_cons_zero, List.getElem?_cons_succ, List.set_cons_zero, List.set_cons_succ]
  rw [if_pos (by omega)]
  simp only [ev, evs, evo, evT, evto, evF, evQ, evI, ex, wr_bind, wr_ok, wr_exc, wt_o, wt_seq, wt_turn, wt_next, wt_brk, wt_cont, wt_ret, wt_exc, Pl.R.bind_ok, Pl.R.o_ok, Pl.R.bind_exc, Pl.R.o_exc, List.getElem?_cons_zero, List.getElem?_cons_succ, List.set_cons_zero, List.set_cons_succ]
  rw [if_pos (by rw [List.length_map, List.length_range]; show _ ≤ 100000; omega)]
  have hat : at_ = ((at_.toNat : Nat) : Int) := by omega
  rw [lc_map (S := B5.on []) (e := fun k : Nat => D.int (k : Int)) (fun k => D.str (nmL (w.take at_.toNat) (w.drop at_.toNat) f b k)) (List.range m.toNat) (fun k hk => ?_)]
  · simp only [ev, evs, evo, evT, evto, evF, evQ, evI, ex, wr_bind, wr_ok, wr_exc, wt_o, wt_seq, wt_turn, wt_next, wt_brk, wt_cont, wt_ret, wt_exc, Pl.R.bind_ok, Pl.R.o_ok, Pl.R.bind_exc, Pl.R.o_exc, List.getElem?_cons_zero, List.getElem?_cons_succ, List.set_cons_zero, List.set_cons_succ]
    refine ⟨B5, [], _, rfl, frz_cl (closedL_map fun _ => rfl), ?_⟩
    have := h (w.take at_.toNat) (w.drop at_.toNat) f b B5 (by simp; omega) (fun x hx => hq x (List.mem_of_mem_take hx)) (fun x hx => hq x (List.mem_of_mem_drop hx)) hb
    rw [List.map_map] at this
    exact this
  · have hk3 := List.mem_range.mp hk
    have hwl : w.length ≤ lim := by show w.length ≤ 100000; omega
    simp only [List.map_cons, List.map_nil, wipeD, bindTg, ev, evs, evo, evT, evto, evF, evQ, evI, ex, wr_bind, wr_ok, wr_exc, wt_o, wt_seq, wt_turn, wt_next, wt_brk, wt_cont, wt_ret, wt_exc, Pl.R.bind_ok, Pl.R.o_ok, Pl.R.bind_exc, Pl.R.o_exc, List.getElem?_cons_zero, List.getElem?_cons_succ, List.set_cons_zero, List.set_cons_succ, sli_str hwl]
    simp (disch := omega) only [v_mul, v_add, v_mod, ev, evs, evo, evT, evto, evF, evQ, evI, ex, wr_bind, wr_ok, wr_exc, wt_o, wt_seq, wt_turn, wt_next, wt_brk, wt_cont, wt_ret, wt_exc, Pl.R.bind_ok, Pl.R.o_ok, Pl.R.bind_exc, Pl.R.o_exc, List.getElem?_cons_zero, List.getElem?_cons_succ, List.set_cons_zero, List.set_cons_succ]
    rw [lx_idx, hat, cut_to, cut_from]
    simp only [ev, evs, evo, evT, evto, evF, evQ, evI, ex, wr_bind, wr_ok, wr_exc, wt_o, wt_seq, wt_turn, wt_next, wt_brk, wt_cont, wt_ret, wt_exc, Pl.R.bind_ok, Pl.R.o_ok, Pl.R.bind_exc, Pl.R.o_exc, List.getElem?_cons_zero, List.getElem?_cons_succ, List.set_cons_zero, List.set_cons_succ]
    rw [add_str (by simp; omega)]
    simp only [ev, evs, evo, evT, evto, evF, evQ, evI, ex, wr_bind, wr_ok, wr_exc, wt_o, wt_seq, wt_turn, wt_next, wt_brk, wt_cont, wt_ret, wt_exc, Pl.R.bind_ok, Pl.R.o_ok, Pl.R.bind_exc, Pl.R.o_exc, List.getElem?_cons_zero, List.getElem?_cons_succ, List.set_cons_zero, List.set_cons_succ]
    rw [add_str (by simp; omega)]
    rfl
def SpWord (C : Nat → List D → Sto → R D) : Prop := ∀ (B : Bg) (ls : List Nat) (top : Int) (S : Sto) (P : D → Sto → Prop) (X : Xc → Sto → Prop), 0 < ls.length → ls.length ≤ 1000 → 0 ≤ top → top < 1000 → (∀ (w : List Nat) (B' : Bg), (w.length : Int) ≤ top → (∀ c ∈ w, c ∈ ls) → P (.str w) (B'.on S)) → Wr (scp 2 false (C 7) [.ref 1, .fro (ls.map one), .int top] (B.on S)) P X
theorem word_ok (hT : T 7 = some f__law_word) {k : Nat} (hp : SpPull (run T G k)) (ho : SpOf (run T G k)) : SpWord (run T G (k + 1)) := fun B ls top S P X l0 l1 t0 t1 h => by
  refine bag hT rfl (by show (closedL 2 _ && true) = true; rw [closedL_map fun _ => rfl] <;> rfl) ?_
  show Wt (exs _ _ f__law_word.body [some (.ref 1), some (.fro (ls.map one)), some (.int top), none] (B.on [])) _
  unfold f__law_word
  rw [wt_cons]
  simp only [ev, evs, evo, evT, evto, evF, evQ, evI, ex, wr_bind, wr_ok, wr_exc, wt_o, wt_seq, wt_turn, wt_next, wt_brk, wt_cont, wt_ret, wt_exc, Pl.R.bind_ok, Pl.R.o_ok, Pl.R.bind_exc, Pl.R.o_exc, List.getElem?_cons_zero, List.getElem?_cons_succ, List.set_cons_zero, List.set_cons_succ, v_add]
  refine hp B _ _ _ _ (by omega) (by omega) fun t B1 r0 r1 => ?_
  dsimp only
  rw [if_pos (by omega)]
  simp only [ev, evs, evo, evT, evto, evF, evQ, evI, ex, wr_bind, wr_ok, wr_exc, wt_o, wt_seq, wt_turn, wt_next, wt_brk, wt_cont, wt_ret, wt_exc, Pl.R.bind_ok, Pl.R.o_ok, Pl.R.bind_exc, Pl.R.o_exc, List.getElem?_cons_zero, List.getElem?_cons_succ, List.set_cons_zero, List.set_cons_succ]
  rw [if_pos (by rw [List.length_map, List.length_range]; show _ ≤ 100000; omega)]
  simp only [List.length_nil]
  refine draw_text (Q := fun c => c ∈ ls) (by omega) (fun j B hj => ?_) fun w B2 hw hq => ?_
  · simp only [List.map_cons, List.map_nil, wipeD, bindTg, ev, evs, evo, evT, evto, evF, evQ, evI, ex, wr_bind, wr_ok, wr_exc, wt_o, wt_seq, wt_turn, wt_next, wt_brk, wt_cont, wt_ret, wt_exc, Pl.R.bind_ok, Pl.R.o_ok, Pl.R.bind_exc, Pl.R.o_exc, List.getElem?_cons_zero, List.getElem?_cons_succ, List.set_cons_zero, List.set_cons_succ]
    refine ho.map (e := one) l0 (by omega) (fun _ => rfl) fun c B' hc => ?_
    exact ⟨c, B', rfl, hc, rfl⟩
  · exact ⟨B2, [], _, rfl, frz_cl rfl, h w B2 (by omega) hq⟩
end
end Pl

set_option maxHeartbeats 4000000
/-! Shared defs: likeness, drawn labs. -/
namespace Pl
open PySem L2
section
variable {T : Tab} {G : Nat → Option D} {C : Nat → List D → Sto → R D}
/-- data that may be compared thing by thing -/
def dat : Nat → D → Prop
  | 0, _ => False
  | n + 1, d => match d with
    | .non => True | .bl _ => True | .int _ => True | .str _ => True
    | .tup ds => ds.length ≤ 100000 ∧ ∀ x ∈ ds, dat n x
    | .fro ds => ds.length ≤ 100000 ∧ ∀ x ∈ ds, dat n x
    | _ => False
theorem dat.closed : ∀ {n : Nat} {d : D}, dat n d → closedD 0 d = true
  | 0, _, h => h.elim
  | n + 1, d, h => by
    cases d <;> first
      | exact False.elim h
      | rfl
      | skip
    case tup ds =>
      show closedL 0 ds = true
      rw [closedL_all, List.all_eq_true]
      exact fun x hx => dat.closed (h.2 x hx)
    case fro ds =>
      show closedL 0 ds = true
      rw [closedL_all, List.all_eq_true]
      exact fun x hx => dat.closed (h.2 x hx)
theorem dat.map {α : Type} {n : Nat} {as : List α} {e : α → D} (hl : as.length ≤ 100000) (h : ∀ a ∈ as, dat n (e a)) : dat (n + 1) (.fro (as.map e)) := ⟨by simpa using hl, fun x hx => by
  obtain ⟨a, ha, rfl⟩ := List.mem_map.mp hx
  exact h a ha⟩
theorem dat.tmap {α : Type} {n : Nat} {as : List α} {e : α → D} (hl : as.length ≤ 100000) (h : ∀ a ∈ as, dat n (e a)) : dat (n + 1) (.tup (as.map e)) := ⟨by simpa using hl, fun x hx => by
  obtain ⟨a, ha, rfl⟩ := List.mem_map.mp hx
  exact h a ha⟩
def SpSame (n : Nat) (C : Nat → List D → Sto → R D) : Prop := ∀ (d : D) (S : Sto), dat n d → scp 0 false (C 3) [d, d] S = .ok (.bl true) S
theorem same_ok (hT : T 3 = some f__law_same) : ∀ n j : Nat, SpSame n (run T G (n + j))
  | 0, j => fun d S h => h.elim
  | n + 1, j => fun d S h => by
    have ih := same_ok hT n j
    have e : n + 1 + j = (n + j) + 1 := by omega
    rw [e]
    refine pur hT rfl (by show (closedD 0 d && (closedD 0 d && true)) = true; rw [h.closed]; rfl) ?_ S
    show Wt (exs _ _ f__law_same.body [some d, some d, none, none] []) _
    have flat : (∀ t, ∃ v, isV d [t] [] = .ok (.bl v) []) → isV d [.list, .tuple] [] = .ok (.bl false) [] → isNn d = false → cmpV .eq d d [] = .ok (.bl true) [] →
        Wt (exs (run T G (n + j)) G f__law_same.body [some d, some d, none, none] []) ⟨fun _ S1 => frz S1 0 6 .non = some (.bl true), no2, no2, fun v S1 => frz S1 0 6 v = some (.bl true), no2⟩ := by
      intro hb h2 hn hc
      obtain ⟨v1, e1⟩ := hb .bool
      obtain ⟨v2, e2⟩ := hb .int
      obtain ⟨v3, e3⟩ := hb .str
      unfold f__law_same
      rw [wt_cons]
      simp only [ev, evs, evo, evT, evto, evF, evQ, evI, ex, wr_bind, wr_ok, wr_exc, wt_o, wt_seq, wt_turn, wt_next, wt_brk, wt_cont, wt_ret, wt_exc, Pl.R.bind_ok, Pl.R.o_ok, Pl.R.bind_exc, Pl.R.o_exc, List.getElem?_cons_zero, List.getElem?_cons_succ, List.set_cons_zero, List.set_cons_succ, h2, truV]
      rw [wt_nil]
      simp only
      rw [wt_cons]
      simp only [ev, evs, evo, evT, evto, evF, evQ, evI, ex, wr_bind, wr_ok, wr_exc, wt_o, wt_seq, wt_turn, wt_next, wt_brk, wt_cont, wt_ret, wt_exc, Pl.R.bind_ok, Pl.R.o_ok, Pl.R.bind_exc, Pl.R.o_exc, List.getElem?_cons_zero, List.getElem?_cons_succ, List.set_cons_zero, List.set_cons_succ, c_isN, hn]
      rw [wt_nil]
      simp only
      rw [wt_cons]
      simp only [ev, evs, evo, evT, evto, evF, evQ, evI, ex, wr_bind, wr_ok, wr_exc, wt_o, wt_seq, wt_turn, wt_next, wt_brk, wt_cont, wt_ret, wt_exc, Pl.R.bind_ok, Pl.R.o_ok, Pl.R.bind_exc, Pl.R.o_exc, List.getElem?_cons_zero, List.getElem?_cons_succ, List.set_cons_zero, List.set_cons_succ, e1, e2, c_neb, decide_true, Bool.not_true]
      rw [wt_nil]
      simp only
      rw [wt_cons]
      simp only [ev, evs, evo, evT, evto, evF, evQ, evI, ex, wr_bind, wr_ok, wr_exc, wt_o, wt_seq, wt_turn, wt_next, wt_brk, wt_cont, wt_ret, wt_exc, Pl.R.bind_ok, Pl.R.o_ok, Pl.R.bind_exc, Pl.R.o_exc, List.getElem?_cons_zero, List.getElem?_cons_succ, List.set_cons_zero, List.set_cons_succ, e3, c_eqb, decide_true, hc]
      exact frz_cl rfl
    have seq : ∀ (ds : List D) (tp : Bool), (∀ t, ∃ v, isV d [t] [] = .ok (.bl v) []) → isV d [.list, .tuple] [] = .ok (.bl true) [] → lenV d [] = .ok (.int ds.length) [] → seqV d [] = .ok ⟨ds, [], tp⟩ [] → ds.length ≤ 100000 → (∀ x ∈ ds, dat n x) →
        Wt (exs (run T G (n + j)) G f__law_same.body [some d, some d, none, none] []) ⟨fun _ S1 => frz S1 0 6 .non = some (.bl true), no2, no2, fun v S1 => frz S1 0 6 v = some (.bl true), no2⟩ := by
      intro ds tp hb h2 hl hs hm hx
      obtain ⟨v1, e1⟩ := hb .list
      obtain ⟨v2, e2⟩ := hb .tuple
      unfold f__law_same
      rw [wt_cons]
      simp only [ev, evs, evo, evT, evto, evF, evQ, evI, ex, wr_bind, wr_ok, wr_exc, wt_o, wt_seq, wt_turn, wt_next, wt_brk, wt_cont, wt_ret, wt_exc, Pl.R.bind_ok, Pl.R.o_ok, Pl.R.bind_exc, Pl.R.o_exc, List.getElem?_cons_zero, List.getElem?_cons_succ, List.set_cons_zero, List.set_cons_succ, h2, truV]
      rw [wt_cons]
      simp only [ev, evs, evo, evT, evto, evF, evQ, evI, ex, wr_bind, wr_ok, wr_exc, wt_o, wt_seq, wt_turn, wt_next, wt_brk, wt_cont, wt_ret, wt_exc, Pl.R.bind_ok, Pl.R.o_ok, Pl.R.bind_exc, Pl.R.o_exc, List.getElem?_cons_zero, List.getElem?_cons_succ, List.set_cons_zero, List.set_cons_succ, e1, e2, c_neb, decide_true, Bool.not_true]
      rw [wt_nil]
      simp only
      rw [wt_cons]
      simp only [ev, evs, evo, evT, evto, evF, evQ, evI, ex, wr_bind, wr_ok, wr_exc, wt_o, wt_seq, wt_turn, wt_next, wt_brk, wt_cont, wt_ret, wt_exc, Pl.R.bind_ok, Pl.R.o_ok, Pl.R.bind_exc, Pl.R.o_exc, List.getElem?_cons_zero, List.getElem?_cons_succ, List.set_cons_zero, List.set_cons_succ, hl, c_eqi, decide_true, hs]
      rw [grd_same]
      simp only [ev, evs, evo, evT, evto, evF, evQ, evI, ex, wr_bind, wr_ok, wr_exc, wt_o, wt_seq, wt_turn, wt_next, wt_brk, wt_cont, wt_ret, wt_exc, Pl.R.bind_ok, Pl.R.o_ok, Pl.R.bind_exc, Pl.R.o_exc, List.getElem?_cons_zero, List.getElem?_cons_succ, List.set_cons_zero, List.set_cons_succ, if_true]
      rw [if_pos (by simp; exact hm)]
      have hz : ds.zip ds = ds.map fun x => (x, x) := by
        clear hl hs hm hx
        induction ds with
        | nil => rfl
        | cons x r ih => simp [ih]
      rw [hz, List.map_map]
      refine Wr.mono (P := fun a S' => a = ds.map (fun _ => D.bl true) ∧ S' = []) (X := no2) ?_ (fun a S' ⟨ha, hS⟩ => ?_) (fun _ _ z => z.elim)
      · rw [lc_map (fun _ => D.bl true) ds fun x hx' => ?_]
        · exact ⟨rfl, rfl⟩
        · simp only [Function.comp, List.map_cons, List.map_nil, wipeD, bindTg, setAll, ev, evs, evo, evT, evto, evF, evQ, evI, ex, wr_bind, wr_ok, wr_exc, wt_o, wt_seq, wt_turn, wt_next, wt_brk, wt_cont, wt_ret, wt_exc, Pl.R.bind_ok, Pl.R.o_ok, Pl.R.bind_exc, Pl.R.o_exc, List.getElem?_cons_zero, List.getElem?_cons_succ, List.set_cons_zero, List.set_cons_succ, ih x [] (hx x hx')]
      · subst ha hS
        have hr : ds.map (fun _ => D.bl true) = List.replicate ds.length (D.bl true) := List.map_const' ..
        simp only [Bool.false_eq_true, if_false]
        rw [hr, bools_true]
        simp only [ev, evs, evo, evT, evto, evF, evQ, evI, ex, wr_bind, wr_ok, wr_exc, wt_o, wt_seq, wt_turn, wt_next, wt_brk, wt_cont, wt_ret, wt_exc, Pl.R.bind_ok, Pl.R.o_ok, Pl.R.bind_exc, Pl.R.o_exc, List.getElem?_cons_zero, List.getElem?_cons_succ, List.set_cons_zero, List.set_cons_succ]
        have : (List.replicate ds.length true).all id = true := by simp
        rw [this]
        exact frz_cl rfl
    cases d <;> first
      | exact False.elim h
      | skip
    case non =>
      unfold f__law_same
      rw [wt_cons]
      have h2 : isV .non [.list, .tuple] [] = .ok (.bl false) [] := rfl
      simp only [ev, evs, evo, evT, evto, evF, evQ, evI, ex, wr_bind, wr_ok, wr_exc, wt_o, wt_seq, wt_turn, wt_next, wt_brk, wt_cont, wt_ret, wt_exc, Pl.R.bind_ok, Pl.R.o_ok, Pl.R.bind_exc, Pl.R.o_exc, List.getElem?_cons_zero, List.getElem?_cons_succ, List.set_cons_zero, List.set_cons_succ, h2, truV]
      rw [wt_nil]
      simp only
      rw [wt_cons]
      simp only [ev, evs, evo, evT, evto, evF, evQ, evI, ex, wr_bind, wr_ok, wr_exc, wt_o, wt_seq, wt_turn, wt_next, wt_brk, wt_cont, wt_ret, wt_exc, Pl.R.bind_ok, Pl.R.o_ok, Pl.R.bind_exc, Pl.R.o_exc, List.getElem?_cons_zero, List.getElem?_cons_succ, List.set_cons_zero, List.set_cons_succ, c_isN, isNn]
      rw [wt_cons]
      simp only [ev, evs, evo, evT, evto, evF, evQ, evI, ex, wr_bind, wr_ok, wr_exc, wt_o, wt_seq, wt_turn, wt_next, wt_brk, wt_cont, wt_ret, wt_exc, Pl.R.bind_ok, Pl.R.o_ok, Pl.R.bind_exc, Pl.R.o_exc, List.getElem?_cons_zero, List.getElem?_cons_succ, List.set_cons_zero, List.set_cons_succ, c_isN, isNn]
      exact frz_cl rfl
    case bl b => exact flat (fun _ => ⟨_, rfl⟩) rfl rfl (by rw [c_eqb, decide_eq_true rfl])
    case int i => exact flat (fun _ => ⟨_, rfl⟩) rfl rfl (by rw [c_eqi, decide_eq_true rfl])
    case str x => exact flat (fun _ => ⟨_, rfl⟩) rfl rfl (by rw [c_eqs, decide_eq_true rfl])
    case tup ds => exact seq ds true (fun _ => ⟨_, rfl⟩) rfl rfl rfl h.1 h.2
    case fro ds => exact seq ds false (fun _ => ⟨_, rfl⟩) rfl rfl rfl h.1 h.2
end
end Pl

set_option maxHeartbeats 4000000
/-! Data that are equal. -/
namespace Pl
open PySem L2
def tOk (x : List Nat) : Prop := ∀ c ∈ x, c < 0x110000
def dv : Nat → D → Prop
  | 0, _ => False
  | n + 1, d => match d with
    | .non => True | .int _ => True
    | .str x => tOk x
    | .tup ds => ∀ x ∈ ds, dv n x
    | .fro ds => ∀ x ∈ ds, dv n x
    | _ => False
theorem strOk_of {x : List Nat} (h : tOk x) : PyData.strOk ⟨x.toArray⟩ = true := by
  unfold PyData.strOk
  rw [Array.all_eq_true_iff_forall_mem]
  intro c hc
  exact decide_eq_true (h c (by simpa using hc))
theorem dvs_pd {g : Nat → Option PyData} {n : Nat} (ih : ∀ d, dv n d → ∃ p, pdR g d = some p ∧ PyData.canLay0 p = true ∧ PyData.depth p ≤ n) : ∀ ds : List D, (∀ x ∈ ds, dv n x) → ∃ ps, pdRs g ds = some ps ∧ PyData.canLayAll0 ps = true ∧ PyData.depthAll ps ≤ n
  | [], _ => ⟨[], rfl, rfl, Nat.zero_le _⟩
  | d :: ds, h => by
    obtain ⟨p, p1, p2, p3⟩ := ih d (h d (List.mem_cons_self ..))
    obtain ⟨ps, h1, h2, h3⟩ := dvs_pd ih ds fun x hx => h x (List.mem_cons_of_mem _ hx)
    exact ⟨p :: ps, by simp only [pdRs, p1, h1], by simp [PyData.canLayAll0, p2, h2], by simp only [PyData.depthAll]; omega⟩
theorem dv_pd {g : Nat → Option PyData} : ∀ (n : Nat) (d : D), dv n d → ∃ p, pdR g d = some p ∧ PyData.canLay0 p = true ∧ PyData.depth p ≤ n
  | 0, _, h => h.elim
  | n + 1, d, h => by
    cases d <;> first
      | exact False.elim h
      | skip
    case non => exact ⟨_, rfl, rfl, by simp [PyData.depth]⟩
    case int i => exact ⟨_, rfl, rfl, by simp [PyData.depth]⟩
    case str x => exact ⟨_, rfl, strOk_of h, by simp [PyData.depth]⟩
    case tup ds =>
      obtain ⟨ps, h1, h2, h3⟩ := dvs_pd (g := g) (dv_pd n) ds h
      exact ⟨.tuple ps, by simp only [pdR, h1, Option.map_some], h2, by simp only [PyData.depth]; omega⟩
    case fro ds =>
      obtain ⟨ps, h1, h2, h3⟩ := dvs_pd (g := g) (dv_pd n) ds h
      exact ⟨.list ps, by simp only [pdR, h1, Option.map_some], h2, by simp only [PyData.depth]; omega⟩
theorem dvs_eq {g : Nat → Option PyData} {n : Nat} (ih : ∀ a b pa pb, dv n a → dv n b → pdR g a = some pa → pdR g b = some pb → (PyData.eqv pa pb = true ↔ a = b)) : ∀ (as bs : List D) (pas pbs : List PyData), (∀ x ∈ as, dv n x) → (∀ x ∈ bs, dv n x) → pdRs g as = some pas → pdRs g bs = some pbs → (PyData.eqvAll pas pbs = true ↔ as = bs)
  | [], [], pas, pbs, _, _, e1, e2 => by cases e1; cases e2; simp [PyData.eqvAll]
  | [], b :: bs, pas, pbs, _, _, e1, e2 => by
    cases e1
    simp only [pdRs] at e2
    split at e2
    · cases e2; simp [PyData.eqvAll]
    · cases e2
  | a :: as, [], pas, pbs, _, _, e1, e2 => by
    cases e2
    simp only [pdRs] at e1
    split at e1
    · cases e1; simp [PyData.eqvAll]
    · cases e1
  | a :: as, b :: bs, pas, pbs, h1, h2, e1, e2 => by
    simp only [pdRs] at e1 e2
    split at e1
    · split at e2
      · rename_i p1 ps1 q1 q2 _ _ p2 ps2 q3 q4
        cases e1
        cases e2
        simp only [PyData.eqvAll, Bool.and_eq_true, List.cons.injEq]
        rw [ih a b _ _ (h1 a (List.mem_cons_self ..)) (h2 b (List.mem_cons_self ..)) q1 q3, dvs_eq ih as bs _ _ (fun x hx => h1 x (List.mem_cons_of_mem _ hx)) (fun x hx => h2 x (List.mem_cons_of_mem _ hx)) q2 q4]
      · cases e2
    · cases e1
theorem pdR_tup {g : Nat → Option PyData} {ds : List D} {p : PyData} (e : pdR g (.tup ds) = some p) : ∃ ps, pdRs g ds = some ps ∧ p = .tuple ps := by
  simp only [pdR, Option.map_eq_some_iff] at e
  obtain ⟨ps, h, rfl⟩ := e
  exact ⟨ps, h, rfl⟩
theorem pdR_fro {g : Nat → Option PyData} {ds : List D} {p : PyData} (e : pdR g (.fro ds) = some p) : ∃ ps, pdRs g ds = some ps ∧ p = .list ps := by
  simp only [pdR, Option.map_eq_some_iff] at e
  obtain ⟨ps, h, rfl⟩ := e
  exact ⟨ps, h, rfl⟩
theorem dv_eq {g : Nat → Option PyData} : ∀ (n : Nat) (a b : D) (pa pb : PyData), dv n a → dv n b → pdR g a = some pa → pdR g b = some pb → (PyData.eqv pa pb = true ↔ a = b)
  | 0, _, _, _, _, h, _, _, _ => h.elim
  | n + 1, a, b, pa, pb, ha, hb, ea, eb => by
    cases a <;> first
      | exact False.elim ha
      | skip
    all_goals (cases b <;> first
      | exact False.elim hb
      | skip)
    case tup.tup as bs =>
      obtain ⟨ps, h1, rfl⟩ := pdR_tup ea
      obtain ⟨qs, h2, rfl⟩ := pdR_tup eb
      simp only [PyData.eqv, D.tup.injEq]
      exact dvs_eq (dv_eq n) as bs ps qs ha hb h1 h2
    case fro.fro as bs =>
      obtain ⟨ps, h1, rfl⟩ := pdR_fro ea
      obtain ⟨qs, h2, rfl⟩ := pdR_fro eb
      simp only [PyData.eqv, D.fro.injEq]
      exact dvs_eq (dv_eq n) as bs ps qs ha hb h1 h2
    case str.str x y =>
      cases ea; cases eb
      simp only [PyData.eqv, beq_iff_eq, D.str.injEq]
      constructor
      · intro e
        have := congrArg (fun z : Str => z.cps.toList) e
        simpa using this
      · rintro rfl; rfl
    case int.int i j => cases ea; cases eb; simp [PyData.eqv]
    case non.non => cases ea; cases eb; simp [PyData.eqv]
    all_goals
      (try (obtain ⟨ps, h1, rfl⟩ := pdR_tup ea))
      (try (obtain ⟨ps, h1, rfl⟩ := pdR_fro ea))
      (try (obtain ⟨ps, h1, rfl⟩ := pdR_tup eb))
      (try (obtain ⟨ps, h1, rfl⟩ := pdR_fro eb))
      (try cases ea)
      (try cases eb)
      simp [PyData.eqv]
theorem eqV_dat {n : Nat} {neg : Bool} {a b : D} {S : Sto} (hn : n ≤ 60) (ha : dv n a) (hb : dv n b) : ∃ r : Bool, eqV neg a b S = .ok (.bl (r ^^ neg)) S ∧ (r = true ↔ a = b) := by
  unfold eqV
  cases q : scalE a b with
  | some r =>
    refine ⟨r, rfl, ?_⟩
    cases n with
    | zero => exact ha.elim
    | succ n =>
      cases a <;> cases b <;> first
        | exact False.elim ha
        | exact False.elim hb
        | (simp only [scalE, Option.some.injEq] at q; subst q; simp)
        | (cases q; done)
  | none =>
    obtain ⟨pa, a1, a2, a3⟩ := dv_pd (g := pdN S 4) n a ha
    obtain ⟨pb, b1, b2, b3⟩ := dv_pd (g := pdN S 4) n b hb
    have s1 : SeqAt.shaped pa = true := by unfold SeqAt.shaped; rw [a2, Bool.true_and, decide_eq_true_eq]; omega
    have s2 : SeqAt.shaped pb = true := by unfold SeqAt.shaped; rw [b2, Bool.true_and, decide_eq_true_eq]; omega
    refine ⟨PyData.eqv pa pb, ?_, dv_eq n a b pa pb ha hb a1 b1⟩
    show (match pd S a, pd S b with | some x, some y => _ | _, _ => _) = _
    unfold pd
    rw [a1, b1]
    show (if (SeqAt.shaped pa && SeqAt.shaped pb) = true then _ else _) = _
    rw [if_pos (by rw [s1, s2] <;> rfl)]
theorem eq_yes {n : Nat} {a b : D} {S : Sto} (e : a = b) (ha : dv n a) (hn : n ≤ 60) : cmpV .eq a b S = .ok (.bl true) S := by
  subst e
  obtain ⟨r, h1, h2⟩ := eqV_dat (neg := false) (S := S) hn ha ha
  have : r = true := h2.mpr rfl
  subst this
  exact h1
theorem eq_no {n : Nat} {a b : D} {S : Sto} (e : a ≠ b) (ha : dv n a) (hb : dv n b) (hn : n ≤ 60) : cmpV .eq a b S = .ok (.bl false) S := by
  obtain ⟨r, h1, h2⟩ := eqV_dat (neg := false) (S := S) hn ha hb
  cases r with
  | true => exact absurd (h2.mp rfl) e
  | false => exact h1
theorem ne_no {n : Nat} {a b : D} {S : Sto} (e : a = b) (ha : dv n a) (hn : n ≤ 60) : cmpV .ne a b S = .ok (.bl false) S := by
  subst e
  obtain ⟨r, h1, h2⟩ := eqV_dat (neg := true) (S := S) hn ha ha
  have : r = true := h2.mpr rfl
  subst this
  exact h1
theorem ne_yes {n : Nat} {a b : D} {S : Sto} (e : a ≠ b) (ha : dv n a) (hb : dv n b) (hn : n ≤ 60) : cmpV .ne a b S = .ok (.bl true) S := by
  obtain ⟨r, h1, h2⟩ := eqV_dat (neg := true) (S := S) hn ha hb
  cases r with
  | true => exact absurd (h2.mp rfl) e
  | false => exact h1
theorem dv_mono : ∀ {n m : Nat} {d : D}, n ≤ m → dv n d → dv m d
  | 0, _, _, _, h => h.elim
  | n + 1, 0, _, hm, _ => absurd hm (by omega)
  | n + 1, m + 1, d, hm, h => by
    cases d <;> first
      | exact False.elim h
      | exact h
      | exact fun x hx => dv_mono (by omega) (h x hx)
theorem dv_map {α : Type} {n : Nat} {as : List α} {e : α → D} (h : ∀ a ∈ as, dv n (e a)) : dv (n + 1) (.fro (as.map e)) := fun x hx => by
  obtain ⟨a, ha, rfl⟩ := List.mem_map.mp hx
  exact h a ha
theorem dv_tmap {α : Type} {n : Nat} {as : List α} {e : α → D} (h : ∀ a ∈ as, dv n (e a)) : dv (n + 1) (.tup (as.map e)) := fun x hx => by
  obtain ⟨a, ha, rfl⟩ := List.mem_map.mp hx
  exact h a ha
theorem Lett.tOk {x : List Nat} (h : Lett x) : tOk x := fun c hc => by
  have := h c hc
  simp only [alph, List.mem_cons, List.not_mem_nil, or_false] at this
  omega
end Pl

set_option maxHeartbeats 4000000
/-! Shared defs: drawn labs as the laws keep them. -/
namespace Pl
open PySem L2
inductive Ac where
  | idle | bare (r : List Nat) | send (r : List Nat) (c : Nat) | take (r : List Nat) (c : Nat)
structure Mv where
  m : List Nat
  s : List Nat
  a : Ac
  e : List Nat
structure Pla where
  lt : List Nat
  ms : List (List Nat × List Nat)
  rs : List (List Nat × List Nat)
  mv : List Mv
  sd : List (List (List Nat))
def dAc : Ac → D
  | .idle => .tup [.str [105, 100, 108, 101]]
  | .bare r => .tup [.str [98, 97, 114, 101], .str r]
  | .send r c => .tup [.str [115, 101, 110, 100], .str r, .str [c]]
  | .take r c => .tup [.str [116, 97, 107, 101], .str r, .str [c]]
def dMv (v : Mv) : D := .tup [.str v.m, .str v.s, dAc v.a, .str v.e]
def dPr (p : List Nat × List Nat) : D := .tup [.str p.1, .str p.2]
def dSs (ws : List (List Nat)) : D := .fro (ws.map D.str)
def key (x : List Nat) : L2.Key := .inr ⟨x.toArray⟩
def plKeys : List L2.Key := [key [108, 101, 116, 116, 101, 114, 115], key [109, 97, 99, 104, 105, 110, 101, 115], key [114, 111, 119, 115], key [109, 111, 118, 101, 115], key [115, 116, 97, 110, 100, 115]]
def dPla (p : Pla) : D := .frd plKeys [.fro (p.lt.map one), .fro (p.ms.map dPr), .fro (p.rs.map dPr), .fro (p.mv.map dMv), .fro (p.sd.map dSs)]
def Nam (w : List Nat) : Prop := 1 ≤ w.length ∧ w.length ≤ 8 ∧ Lett w
def AcOk (p : Pla) : Ac → Prop
  | .idle => True
  | .bare r => r ∈ p.rs.map (·.1)
  | .send r c => r ∈ p.rs.map (·.1) ∧ c ∈ p.lt
  | .take r c => r ∈ p.rs.map (·.1) ∧ c ∈ p.lt
structure MvOk (p : Pla) (v : Mv) : Prop where
  m : ∃ (i : Nat) (q : List Nat × List Nat) (st : List (List Nat)), p.ms[i]? = some q ∧ p.sd[i]? = some st ∧ q.1 = v.m ∧ v.s ∈ st ∧ v.e ∈ st
  a : AcOk p v.a
structure PlaOk (p : Pla) : Prop where
  l0 : 0 < p.lt.length
  l3 : p.lt.length ≤ 3
  lL : Lett p.lt
  ml : p.sd.length = p.ms.length
  m5 : p.ms.length ≤ 5
  mn : (p.ms.map (·.1)).Nodup
  mN : ∀ q ∈ p.ms, Nam q.1
  sF : ∀ (i : Nat) (q : List Nat × List Nat) (st : List (List Nat)), p.ms[i]? = some q → p.sd[i]? = some st → q.2 ∈ st
  sN : ∀ st ∈ p.sd, 0 < st.length ∧ st.length ≤ 6 ∧ st.Nodup ∧ ∀ w ∈ st, Nam w
  r7 : p.rs.length ≤ 7
  rn : (p.rs.map (·.1)).Nodup
  rN : ∀ q ∈ p.rs, Nam q.1 ∧ q.2.length ≤ 2 ∧ ∀ c ∈ q.2, c ∈ p.lt
  v9 : p.mv.length ≤ 1000
  vk : ∀ v ∈ p.mv, MvOk p v
@[simp] theorem cl_Ac {m : Nat} {a : Ac} : closedD m (dAc a) = true := by cases a <;> rfl
@[simp] theorem cl_Mv {m : Nat} {v : Mv} : closedD m (dMv v) = true := by
  show (true && (true && (closedD m (dAc v.a) && (true && true)))) = true
  rw [cl_Ac]; rfl
@[simp] theorem cl_Pr {m : Nat} {p : List Nat × List Nat} : closedD m (dPr p) = true := rfl
@[simp] theorem cl_Ss {m : Nat} {p : List (List Nat)} : closedD m (dSs p) = true := closedL_map fun _ => rfl
@[simp] theorem cl_one {m : Nat} {c : Nat} : closedD m (one c) = true := rfl
@[simp] theorem cl_Pla {m : Nat} {p : Pla} : closedD m (dPla p) = true := by
  show (closedL m (p.lt.map one) && (closedL m (p.ms.map dPr) && (closedL m (p.rs.map dPr) && (closedL m (p.mv.map dMv) && (closedL m (p.sd.map dSs) && true))))) = true
  rw [closedL_map fun _ => cl_one, closedL_map fun _ => cl_Pr, closedL_map fun _ => cl_Pr, closedL_map fun _ => cl_Mv, closedL_map fun _ => cl_Ss]
  rfl
theorem nF_Ac {a : Ac} : noF (dAc a) = true := by cases a <;> rfl
theorem nF_Mv {v : Mv} : noF (dMv v) = true := by
  show (true && (true && (noF (dAc v.a) && (true && true)))) = true
  rw [nF_Ac]; rfl
section
variable {T : Tab} {G : Nat → Option D} {C : Nat → List D → Sto → R D}
section
variable {p : Pla} {S : Sto}
theorem pl_lt : dgetV (dPla p) (.str [108, 101, 116, 116, 101, 114, 115]) S = .ok (.fro (p.lt.map one)) S := rfl
theorem pl_ms : dgetV (dPla p) (.str [109, 97, 99, 104, 105, 110, 101, 115]) S = .ok (.fro (p.ms.map dPr)) S := rfl
theorem pl_rs : dgetV (dPla p) (.str [114, 111, 119, 115]) S = .ok (.fro (p.rs.map dPr)) S := rfl
theorem pl_mv : dgetV (dPla p) (.str [109, 111, 118, 101, 115]) S = .ok (.fro (p.mv.map dMv)) S := rfl
theorem pl_sd : dgetV (dPla p) (.str [115, 116, 97, 110, 100, 115]) S = .ok (.fro (p.sd.map dSs)) S := rfl
end
theorem fro_at {α : Type} {as : List α} {e : α → D} {i : Nat} {a : α} (h : as[i]? = some a) {S : Sto} : idxV (.fro (as.map e)) (.int (i : Int)) S = .ok (e a) S := by
  have h1 : (as.map e)[((i : Nat) : Int).toNat]? = some (e a) := by
    rw [Int.toNat_natCast, List.getElem?_map, h]
    rfl
  exact idxV_fro (atI_go (by omega) h1)
theorem idx_pr0 {q : List Nat × List Nat} {S : Sto} : idxV (dPr q) (.int 0) S = .ok (.str q.1) S := rfl
theorem idx_pr1 {q : List Nat × List Nat} {S : Sto} : idxV (dPr q) (.int 1) S = .ok (.str q.2) S := rfl
theorem dv_pr {q : List Nat × List Nat} (h1 : tOk q.1) (h2 : tOk q.2) : dv 2 (dPr q) := fun x hx => by
  simp only [List.mem_cons, List.not_mem_nil, or_false] at hx
  rcases hx with rfl | rfl
  · exact h1
  · exact h2
theorem PlaOk.word {p : Pla} (h : PlaOk p) {q : List Nat × List Nat} (hq : q ∈ p.rs) : Lett q.2 := fun c hc => h.lL c ((h.rN q hq).2.2 c hc)
def SpAct (C : Nat → List D → Sto → R D) : Prop := ∀ (B : Bg) (p : Pla) (S : Sto) (P : D → Sto → Prop) (X : Xc → Sto → Prop), 0 < p.lt.length → p.lt.length ≤ 1000 → p.rs.length ≤ 1000 → (∀ q ∈ p.rs, Nam q.1 ∧ Lett q.2) → (∀ (a : Ac) (B' : Bg), AcOk p a → P (dAc a) (B'.on S)) → Wr (scp 2 false (C 9) [.ref 1, dPla p] (B.on S)) P X
theorem act_ok (hT : T 9 = some f__law_act) {k : Nat} (hp : SpPull (run T G k)) (ho : SpOf (run T G k)) : SpAct (run T G (k + 1)) := fun B p S P X l0 l1 r1 hr h => by
  refine bag hT rfl (by show (closedD 2 (dPla p) && true) = true; rw [cl_Pla]; rfl) ?_
  have fin : ∀ (B' : Bg) (a : Ac), AcOk p a → ∃ (B'' : Bg) (S2 : Sto) (d : D), B'.on [] = B''.on S2 ∧ frz (B'.on []) 2 6 (dAc a) = some d ∧ P d (B''.on S) := fun B' a ha => ⟨B', [], _, rfl, frz_cl cl_Ac, h a B' ha⟩
  show Wt (exs _ _ f__law_act.body [some (.ref 1), some (dPla p), none, none] (B.on [])) _
  unfold f__law_act
  rw [wt_cons]
  simp only [ev, evs, evo, evT, evto, evF, evQ, evI, ex, wr_bind, wr_ok, wr_exc, wt_o, wt_seq, wt_turn, wt_next, wt_brk, wt_cont, wt_ret, wt_exc, Pl.R.bind_ok, Pl.R.o_ok, Pl.R.bind_exc, Pl.R.o_exc, List.getElem?_cons_zero, List.getElem?_cons_succ, List.set_cons_zero, List.set_cons_succ]
  refine hp B _ _ _ _ (by decide) (by decide) fun r B1 r0 r1' => ?_
  rw [wt_cons]
  simp only [ev, evs, evo, evT, evto, evF, evQ, evI, ex, wr_bind, wr_ok, wr_exc, wt_o, wt_seq, wt_turn, wt_next, wt_brk, wt_cont, wt_ret, wt_exc, Pl.R.bind_ok, Pl.R.o_ok, Pl.R.bind_exc, Pl.R.o_exc, List.getElem?_cons_zero, List.getElem?_cons_succ, List.set_cons_zero, List.set_cons_succ, c_eqi]
  by_cases e0 : r = 0
  · simp only [e0, decide_true, ev, evs, evo, evT, evto, evF, evQ, evI, ex, wr_bind, wr_ok, wr_exc, wt_o, wt_seq, wt_turn, wt_next, wt_brk, wt_cont, wt_ret, wt_exc, Pl.R.bind_ok, Pl.R.o_ok, Pl.R.bind_exc, Pl.R.o_exc, List.getElem?_cons_zero, List.getElem?_cons_succ, List.set_cons_zero, List.set_cons_succ]
    rw [wt_cons]
    simp only [ev, evs, evo, evT, evto, evF, evQ, evI, ex, wr_bind, wr_ok, wr_exc, wt_o, wt_seq, wt_turn, wt_next, wt_brk, wt_cont, wt_ret, wt_exc, Pl.R.bind_ok, Pl.R.o_ok, Pl.R.bind_exc, Pl.R.o_exc, List.getElem?_cons_zero, List.getElem?_cons_succ, List.set_cons_zero, List.set_cons_succ]
    rw [if_pos (by first | decide | (simp only [List.length_cons, List.length_nil]; decide))]
    exact fin B1 .idle trivial
  simp only [e0, decide_false, ev, evs, evo, evT, evto, evF, evQ, evI, ex, wr_bind, wr_ok, wr_exc, wt_o, wt_seq, wt_turn, wt_next, wt_brk, wt_cont, wt_ret, wt_exc, Pl.R.bind_ok, Pl.R.o_ok, Pl.R.bind_exc, Pl.R.o_exc, List.getElem?_cons_zero, List.getElem?_cons_succ, List.set_cons_zero, List.set_cons_succ, pl_rs, List.length_nil, Nat.zero_le, if_true]
  have dvl : dv 3 (.fro (p.rs.map dPr)) := dv_map fun q hq => dv_pr (hr q hq).1.2.2.tOk (hr q hq).2.tOk
  by_cases en : p.rs = []
  · rw [eq_yes (n := 3) (by rw [en]; rfl) dvl (by decide)]
    simp only [ev, evs, evo, evT, evto, evF, evQ, evI, ex, wr_bind, wr_ok, wr_exc, wt_o, wt_seq, wt_turn, wt_next, wt_brk, wt_cont, wt_ret, wt_exc, Pl.R.bind_ok, Pl.R.o_ok, Pl.R.bind_exc, Pl.R.o_exc, List.getElem?_cons_zero, List.getElem?_cons_succ, List.set_cons_zero, List.set_cons_succ]
    rw [wt_cons]
    simp only [ev, evs, evo, evT, evto, evF, evQ, evI, ex, wr_bind, wr_ok, wr_exc, wt_o, wt_seq, wt_turn, wt_next, wt_brk, wt_cont, wt_ret, wt_exc, Pl.R.bind_ok, Pl.R.o_ok, Pl.R.bind_exc, Pl.R.o_exc, List.getElem?_cons_zero, List.getElem?_cons_succ, List.set_cons_zero, List.set_cons_succ]
    rw [if_pos (by first | decide | (simp only [List.length_cons, List.length_nil]; decide))]
    exact fin B1 .idle trivial
  · have hne : (D.fro (p.rs.map dPr)) ≠ .fro [] := fun z => by
      simp only [D.fro.injEq, List.map_eq_nil_iff] at z
      exact en z
    rw [eq_no (n := 3) hne dvl (fun x hx => nomatch hx) (by decide)]
    simp only [ev, evs, evo, evT, evto, evF, evQ, evI, ex, wr_bind, wr_ok, wr_exc, wt_o, wt_seq, wt_turn, wt_next, wt_brk, wt_cont, wt_ret, wt_exc, Pl.R.bind_ok, Pl.R.o_ok, Pl.R.bind_exc, Pl.R.o_exc, List.getElem?_cons_zero, List.getElem?_cons_succ, List.set_cons_zero, List.set_cons_succ]
    rw [wt_nil]
    dsimp only
    rw [wt_cons]
    simp only [ev, evs, evo, evT, evto, evF, evQ, evI, ex, wr_bind, wr_ok, wr_exc, wt_o, wt_seq, wt_turn, wt_next, wt_brk, wt_cont, wt_ret, wt_exc, Pl.R.bind_ok, Pl.R.o_ok, Pl.R.bind_exc, Pl.R.o_exc, List.getElem?_cons_zero, List.getElem?_cons_succ, List.set_cons_zero, List.set_cons_succ, pl_rs]
    have hrl : 0 < p.rs.length := List.length_pos_iff.mpr en
    refine ho.map hrl (by omega) (fun _ => cl_Pr) fun q B2 hq => ?_
    rw [idx_pr0]
    simp only [ev, evs, evo, evT, evto, evF, evQ, evI, ex, wr_bind, wr_ok, wr_exc, wt_o, wt_seq, wt_turn, wt_next, wt_brk, wt_cont, wt_ret, wt_exc, Pl.R.bind_ok, Pl.R.o_ok, Pl.R.bind_exc, Pl.R.o_exc, List.getElem?_cons_zero, List.getElem?_cons_succ, List.set_cons_zero, List.set_cons_succ]
    have hq1 : q.1 ∈ p.rs.map (·.1) := List.mem_map_of_mem hq
    rw [wt_cons]
    simp only [ev, evs, evo, evT, evto, evF, evQ, evI, ex, wr_bind, wr_ok, wr_exc, wt_o, wt_seq, wt_turn, wt_next, wt_brk, wt_cont, wt_ret, wt_exc, Pl.R.bind_ok, Pl.R.o_ok, Pl.R.bind_exc, Pl.R.o_exc, List.getElem?_cons_zero, List.getElem?_cons_succ, List.set_cons_zero, List.set_cons_succ, c_eqi]
    by_cases e1 : r = 1
    · simp only [e1, decide_true, ev, evs, evo, evT, evto, evF, evQ, evI, ex, wr_bind, wr_ok, wr_exc, wt_o, wt_seq, wt_turn, wt_next, wt_brk, wt_cont, wt_ret, wt_exc, Pl.R.bind_ok, Pl.R.o_ok, Pl.R.bind_exc, Pl.R.o_exc, List.getElem?_cons_zero, List.getElem?_cons_succ, List.set_cons_zero, List.set_cons_succ]
      rw [wt_cons]
      simp only [ev, evs, evo, evT, evto, evF, evQ, evI, ex, wr_bind, wr_ok, wr_exc, wt_o, wt_seq, wt_turn, wt_next, wt_brk, wt_cont, wt_ret, wt_exc, Pl.R.bind_ok, Pl.R.o_ok, Pl.R.bind_exc, Pl.R.o_exc, List.getElem?_cons_zero, List.getElem?_cons_succ, List.set_cons_zero, List.set_cons_succ]
      rw [if_pos (by first | decide | (simp only [List.length_cons, List.length_nil]; decide))]
      exact fin B2 (.bare q.1) hq1
    simp only [e1, decide_false, ev, evs, evo, evT, evto, evF, evQ, evI, ex, wr_bind, wr_ok, wr_exc, wt_o, wt_seq, wt_turn, wt_next, wt_brk, wt_cont, wt_ret, wt_exc, Pl.R.bind_ok, Pl.R.o_ok, Pl.R.bind_exc, Pl.R.o_exc, List.getElem?_cons_zero, List.getElem?_cons_succ, List.set_cons_zero, List.set_cons_succ]
    rw [wt_nil]
    dsimp only
    rw [wt_cons]
    simp (disch := omega) only [ev, evs, evo, evT, evto, evF, evQ, evI, ex, wr_bind, wr_ok, wr_exc, wt_o, wt_seq, wt_turn, wt_next, wt_brk, wt_cont, wt_ret, wt_exc, Pl.R.bind_ok, Pl.R.o_ok, Pl.R.bind_exc, Pl.R.o_exc, List.getElem?_cons_zero, List.getElem?_cons_succ, List.set_cons_zero, List.set_cons_succ, List.length_cons, List.length_nil, v_mod]
    rw [if_pos (by first | decide | (simp only [List.length_cons, List.length_nil]; decide))]
    simp only [ev, evs, evo, evT, evto, evF, evQ, evI, ex, wr_bind, wr_ok, wr_exc, wt_o, wt_seq, wt_turn, wt_next, wt_brk, wt_cont, wt_ret, wt_exc, Pl.R.bind_ok, Pl.R.o_ok, Pl.R.bind_exc, Pl.R.o_exc, List.getElem?_cons_zero, List.getElem?_cons_succ, List.set_cons_zero, List.set_cons_succ]
    rcases Int.emod_two_eq r with e | e
    · rw [e, show idxV (.fro [.str [115, 101, 110, 100], .str [116, 97, 107, 101]]) (.int 0) (B2.on []) = .ok (.str [115, 101, 110, 100]) (B2.on []) from rfl]
      simp only [ev, evs, evo, evT, evto, evF, evQ, evI, ex, wr_bind, wr_ok, wr_exc, wt_o, wt_seq, wt_turn, wt_next, wt_brk, wt_cont, wt_ret, wt_exc, Pl.R.bind_ok, Pl.R.o_ok, Pl.R.bind_exc, Pl.R.o_exc, List.getElem?_cons_zero, List.getElem?_cons_succ, List.set_cons_zero, List.set_cons_succ, pl_lt]
      refine ho.map l0 (by omega) (fun _ => cl_one) fun c B3 hc => ?_
      try dsimp only
      rw [if_pos (by first | decide | (simp only [List.length_cons, List.length_nil]; decide))]
      exact fin B3 (.send q.1 c) ⟨hq1, hc⟩
    · rw [e, show idxV (.fro [.str [115, 101, 110, 100], .str [116, 97, 107, 101]]) (.int 1) (B2.on []) = .ok (.str [116, 97, 107, 101]) (B2.on []) from rfl]
      simp only [ev, evs, evo, evT, evto, evF, evQ, evI, ex, wr_bind, wr_ok, wr_exc, wt_o, wt_seq, wt_turn, wt_next, wt_brk, wt_cont, wt_ret, wt_exc, Pl.R.bind_ok, Pl.R.o_ok, Pl.R.bind_exc, Pl.R.o_exc, List.getElem?_cons_zero, List.getElem?_cons_succ, List.set_cons_zero, List.set_cons_succ, pl_lt]
      refine ho.map l0 (by omega) (fun _ => cl_one) fun c B3 hc => ?_
      try dsimp only
      rw [if_pos (by first | decide | (simp only [List.length_cons, List.length_nil]; decide))]
      exact fin B3 (.take q.1 c) ⟨hq1, hc⟩
/-- the machines' part of a lab that is good -/
structure MacOk (p : Pla) : Prop where
  ml : p.sd.length = p.ms.length
  m5 : p.ms.length ≤ 1000
  sN : ∀ st ∈ p.sd, 0 < st.length ∧ st.length ≤ 1000
def SpMove (C : Nat → List D → Sto → R D) : Prop := ∀ (B : Bg) (p : Pla) (b : Bool) (ds : List D) (S : Sto) (P : D → Sto → Prop) (X : Xc → Sto → Prop), (if b then mapO (frz (B.on S) 2 6) ds else if closedL 2 ds then some ds else none) = some [.ref 1, dPla p] →
  0 < p.lt.length → p.lt.length ≤ 1000 → p.rs.length ≤ 1000 → (∀ q ∈ p.rs, Nam q.1 ∧ Lett q.2) → MacOk p → 0 < p.ms.length → (∀ (v : Mv) (B' : Bg), MvOk p v → P (dMv v) (B'.on S)) → Wr (scp 2 b (C 8) ds (B.on S)) P X
theorem move_ok (hT : T 8 = some f__law_move) {k : Nat} (hp : SpPull (run T G k)) (ho : SpOf (run T G k)) (ha : SpAct (run T G k)) : SpMove (run T G (k + 1)) := fun B p b ds S P X hds l0 l1 r1 hr hm m0 h => by
  refine scp_bag hds ?_
  rw [wr_run hT rfl]
  show Wt (exs _ _ f__law_move.body [some (.ref 1), some (dPla p), none, none] (B.on [])) _
  unfold f__law_move
  have m5 := hm.m5
  rw [wt_cons]
  simp only [ev, evs, evo, evT, evto, evF, evQ, evI, ex, wr_bind, wr_ok, wr_exc, wt_o, wt_seq, wt_turn, wt_next, wt_brk, wt_cont, wt_ret, wt_exc, Pl.R.bind_ok, Pl.R.o_ok, Pl.R.bind_exc, Pl.R.o_exc, List.getElem?_cons_zero, List.getElem?_cons_succ, List.set_cons_zero, List.set_cons_succ, pl_ms, len_fro, List.length_map]
  refine hp B _ _ _ _ (by omega) (by omega) fun r B1 r0 r1' => ?_
  have er : r = ((r.toNat : Nat) : Int) := by omega
  have hq : p.ms[r.toNat]? = some p.ms[r.toNat] := List.getElem?_eq_getElem (by omega)
  have hs : p.sd[r.toNat]? = some (p.sd[r.toNat]'(by rw [hm.ml]; omega)) := List.getElem?_eq_getElem (by rw [hm.ml]; omega)
  generalize p.ms[r.toNat] = q at hq
  generalize (p.sd[r.toNat]'(by rw [hm.ml]; omega)) = st at hs
  obtain ⟨s0, s1⟩ := hm.sN st (List.mem_of_getElem? hs)
  rw [wt_cons]
  rw [er]
  simp only [ev, evs, evo, evT, evto, evF, evQ, evI, ex, wr_bind, wr_ok, wr_exc, wt_o, wt_seq, wt_turn, wt_next, wt_brk, wt_cont, wt_ret, wt_exc, Pl.R.bind_ok, Pl.R.o_ok, Pl.R.bind_exc, Pl.R.o_exc, List.getElem?_cons_zero, List.getElem?_cons_succ, List.set_cons_zero, List.set_cons_succ, pl_sd, fro_at hs]
  rw [wt_cons]
  simp only [ev, evs, evo, evT, evto, evF, evQ, evI, ex, wr_bind, wr_ok, wr_exc, wt_o, wt_seq, wt_turn, wt_next, wt_brk, wt_cont, wt_ret, wt_exc, Pl.R.bind_ok, Pl.R.o_ok, Pl.R.bind_exc, Pl.R.o_exc, List.getElem?_cons_zero, List.getElem?_cons_succ, List.set_cons_zero, List.set_cons_succ, pl_ms, fro_at hq, idx_pr0]
  refine ho.map s0 (by omega) (fun _ => rfl) fun x B2 hx => ?_
  try simp only [ev, evs, evo, evT, evto, evF, evQ, evI, ex, wr_bind, wr_ok, wr_exc, wt_o, wt_seq, wt_turn, wt_next, wt_brk, wt_cont, wt_ret, wt_exc, Pl.R.bind_ok, Pl.R.o_ok, Pl.R.bind_exc, Pl.R.o_exc, List.getElem?_cons_zero, List.getElem?_cons_succ, List.set_cons_zero, List.set_cons_succ]
  refine ha B2 p _ _ _ l0 l1 r1 hr fun a B3 haa => ?_
  try simp only [ev, evs, evo, evT, evto, evF, evQ, evI, ex, wr_bind, wr_ok, wr_exc, wt_o, wt_seq, wt_turn, wt_next, wt_brk, wt_cont, wt_ret, wt_exc, Pl.R.bind_ok, Pl.R.o_ok, Pl.R.bind_exc, Pl.R.o_exc, List.getElem?_cons_zero, List.getElem?_cons_succ, List.set_cons_zero, List.set_cons_succ]
  refine ho.map s0 (by omega) (fun _ => rfl) fun y B4 hy => ?_
  try dsimp only
  rw [if_pos (by first | decide | (simp only [List.length_cons, List.length_nil]; decide))]
  exact ⟨B4, [], _, rfl, frz_cl (cl_Mv (v := ⟨q.1, x, a, y⟩)), .inr (nF_Mv (v := ⟨q.1, x, a, y⟩)), h ⟨q.1, x, a, y⟩ B4 ⟨⟨_, q, st, hq, hs, rfl, hx, hy⟩, haa⟩⟩
end
end Pl

set_option maxHeartbeats 4000000
/-! Shared defs: a lab is drawn. -/
namespace Pl
open PySem L2
section
variable {T : Tab} {G : Nat → Option D} {C : Nat → List D → Sto → R D}
def plKv (a b c d e : D) : List (L2.Key × D) := [(key [108, 101, 116, 116, 101, 114, 115], a), (key [109, 97, 99, 104, 105, 110, 101, 115], b), (key [114, 111, 119, 115], c), (key [109, 111, 118, 101, 115], d), (key [115, 116, 97, 110, 100, 115], e)]
/-- a lab as it is drawn, in the store behind the bag -/
def plS (p : Pla) : Sto := [.lst (p.ms.map dPr), .lst (p.rs.map dPr), .lst (p.mv.map dMv), .lst (p.sd.map dSs), .dct (plKv (.fro (p.lt.map one)) (.ref 2) (.ref 3) (.ref 4) (.ref 5))]
section
variable {p : Pla} {B : Bg} {d : D} {k : List Nat}
theorem ps_ms : dgetV (.ref 6) (.str [109, 97, 99, 104, 105, 110, 101, 115]) (B.on (plS p)) = .ok (.ref 2) (B.on (plS p)) := rfl
theorem ps_rs : dgetV (.ref 6) (.str [114, 111, 119, 115]) (B.on (plS p)) = .ok (.ref 3) (B.on (plS p)) := rfl
theorem ps_mv : dgetV (.ref 6) (.str [109, 111, 118, 101, 115]) (B.on (plS p)) = .ok (.ref 4) (B.on (plS p)) := rfl
theorem ps_sd : dgetV (.ref 6) (.str [115, 116, 97, 110, 100, 115]) (B.on (plS p)) = .ok (.ref 5) (B.on (plS p)) := rfl
theorem ps_2 : (B.on (plS p))[2]? = some (.lst (p.ms.map dPr)) := rfl
theorem ps_3 : (B.on (plS p))[3]? = some (.lst (p.rs.map dPr)) := rfl
theorem ps_4 : (B.on (plS p))[4]? = some (.lst (p.mv.map dMv)) := rfl
theorem ps_5 : (B.on (plS p))[5]? = some (.lst (p.sd.map dSs)) := rfl
theorem ps_6 : (B.on (plS p))[6]? = some (.dct (plKv (.fro (p.lt.map one)) (.ref 2) (.ref 3) (.ref 4) (.ref 5))) := rfl
theorem ps_s2 {q : List Nat × List Nat} : (B.on (plS p)).set 2 (.lst (p.ms.map dPr ++ [dPr q])) = B.on (plS { p with ms := p.ms ++ [q] }) := by
  show B.on _ = _
  simp [plS]
theorem ps_s3 {q : List Nat × List Nat} : (B.on (plS p)).set 3 (.lst (p.rs.map dPr ++ [dPr q])) = B.on (plS { p with rs := p.rs ++ [q] }) := by
  show B.on _ = _
  simp [plS]
theorem ps_s4 {q : Mv} : (B.on (plS p)).set 4 (.lst (p.mv.map dMv ++ [dMv q])) = B.on (plS { p with mv := p.mv ++ [q] }) := by
  show B.on _ = _
  simp [plS]
theorem ps_s5 {q : List (List Nat)} : (B.on (plS p)).set 5 (.lst (p.sd.map dSs ++ [dSs q])) = B.on (plS { p with sd := p.sd ++ [q] }) := by
  show B.on _ = _
  simp [plS]
theorem ps_frz6 : frz (B.on (plS p)) 2 6 (.ref 6) = some (dPla p) := by
  refine frz_dct (ds := [.fro (p.lt.map one), .fro (p.ms.map dPr), .fro (p.rs.map dPr), .fro (p.mv.map dMv), .fro (p.sd.map dSs)]) (by decide) ps_6 ?_
  show mapO (frz (B.on (plS p)) 2 5) [.fro (p.lt.map one), .ref 2, .ref 3, .ref 4, .ref 5] = _
  simp only [mapO, frz_cl (show closedD 2 (.fro (p.lt.map one)) = true from closedL_map fun _ => cl_one), frz_lst (Nat.le_refl 2) (ps_2 (p := p) (B := B)) (closedL_map fun _ => cl_Pr), frz_lst (show 2 ≤ 3 by decide) (ps_3 (p := p) (B := B)) (closedL_map fun _ => cl_Pr), frz_lst (show 2 ≤ 4 by decide) (ps_4 (p := p) (B := B)) (closedL_map fun _ => cl_Mv), frz_lst (show 2 ≤ 5 by decide) (ps_5 (p := p) (B := B)) (closedL_map fun _ => cl_Ss)]
theorem ps_frz : mapO (frz (B.on (plS p)) 2 6) [.ref 1, .ref 6] = some [.ref 1, dPla p] := by
  simp only [mapO, frz_cl (show closedD 2 (.ref 1) = true from rfl), ps_frz6]
end
theorem fro_at_i {α : Type} {as : List α} {e : α → D} {i : Int} {a : α} (h0 : 0 ≤ i) (h : as[i.toNat]? = some a) {S : Sto} : idxV (.fro (as.map e)) (.int i) S = .ok (e a) S := by
  have e2 : i = ((i.toNat : Nat) : Int) := by omega
  rw [e2]
  exact fro_at h
theorem cut_i {α : Type} {xs : List α} {i : Int} (h : 0 ≤ i) : cutL xs none (some i) = xs.take i.toNat := by
  have e2 : i = ((i.toNat : Nat) : Int) := by omega
  rw [e2, cut_to, Int.toNat_natCast]
def SpPlan (C : Nat → List D → Sto → R D) : Prop := ∀ (B : Bg) (M St R Mo : Int) (S : Sto) (P : D → Sto → Prop) (X : Xc → Sto → Prop), 0 ≤ M → M ≤ 5 → 1 ≤ St → St ≤ 6 → 0 ≤ R → R ≤ 7 → 0 ≤ Mo → Mo ≤ 1000 →
  (∀ (p : Pla) (B' : Bg), PlaOk p → p.ms.length = M.toNat → p.rs.length = R.toNat → p.mv.length = (if 0 < M then Mo.toNat else 0) → (∀ st ∈ p.sd, (st.length : Int) ≤ St) → P (dPla p) (B'.on S)) → Wr (scp 2 false (C 14) [.ref 1, .int M, .int St, .int R, .int Mo] (B.on S)) P X
theorem nodup_names {a c : List Nat} {f b : Int} (hb : b ∈ bys) {s n : Nat} (h : s + n ≤ 26) : ((List.range n).map fun k => nmL a c f b (s + k)).Nodup := by
  rw [List.nodup_iff_pairwise_ne, List.pairwise_map]
  refine List.Pairwise.imp_of_mem ?_ List.nodup_range
  intro i j hi hj hne e
  have hi' := List.mem_range.mp hi
  have hj' := List.mem_range.mp hj
  have := nmL_inj hb (by omega) (by omega) e
  omega
theorem nam_of {a c : List Nat} {f b : Int} {k : Nat} (hl : a.length + c.length ≤ 7) (ha : Lett a) (hc : Lett c) : Nam (nmL a c f b k) := ⟨by rw [nmL_len]; omega, by rw [nmL_len]; omega, nmL_lett ha hc⟩
theorem plan_ok (hT : T 14 = some f__law_plan) {k : Nat} (hp : SpPull (run T G k)) (ho : SpOf (run T G k)) (hn : SpNames (run T G k)) (hl : SpLetters (run T G k)) (hw : SpWord (run T G k)) (hm : SpMove (run T G k)) : SpPlan (run T G (k + 1)) := fun B M St R Mo S P X M0 M5 S1 S6 R0 R7 O0 O9 h => by
  refine bag hT rfl rfl ?_
  show Wt (exs _ _ f__law_plan.body [some (.ref 1), some (.int M), some (.int St), some (.int R), some (.int Mo), none, none, none, none, none] (B.on [])) _
  unfold f__law_plan
  rw [wt_cons]
  simp only [ev, evs, evo, evT, evto, evF, evQ, evI, ex, wr_bind, wr_ok, wr_exc, wt_o, wt_seq, wt_turn, wt_next, wt_brk, wt_cont, wt_ret, wt_exc, Pl.R.bind_ok, Pl.R.o_ok, Pl.R.bind_exc, Pl.R.o_exc, List.getElem?_cons_zero, List.getElem?_cons_succ, List.set_cons_zero, List.set_cons_succ]
  refine hn B _ _ _ _ (by decide) (by decide) fun na nc nf nb B1 nl nA nC nB => ?_
  rw [wt_cons]
  simp only [ev, evs, evo, evT, evto, evF, evQ, evI, ex, wr_bind, wr_ok, wr_exc, wt_o, wt_seq, wt_turn, wt_next, wt_brk, wt_cont, wt_ret, wt_exc, Pl.R.bind_ok, Pl.R.o_ok, Pl.R.bind_exc, Pl.R.o_exc, List.getElem?_cons_zero, List.getElem?_cons_succ, List.set_cons_zero, List.set_cons_succ]
  refine hl B1 _ _ _ fun lf lb B2 lf0 lf1 lbb => ?_
  try simp only [ev, evs, evo, evT, evto, evF, evQ, evI, ex, wr_bind, wr_ok, wr_exc, wt_o, wt_seq, wt_turn, wt_next, wt_brk, wt_cont, wt_ret, wt_exc, Pl.R.bind_ok, Pl.R.o_ok, Pl.R.bind_exc, Pl.R.o_exc, List.getElem?_cons_zero, List.getElem?_cons_succ, List.set_cons_zero, List.set_cons_succ]
  refine hp B2 _ _ _ _ (by decide) (by decide) fun t B3 t0 t1 => ?_
  simp only [ev, evs, evo, evT, evto, evF, evQ, evI, ex, wr_bind, wr_ok, wr_exc, wt_o, wt_seq, wt_turn, wt_next, wt_brk, wt_cont, wt_ret, wt_exc, Pl.R.bind_ok, Pl.R.o_ok, Pl.R.bind_exc, Pl.R.o_exc, List.getElem?_cons_zero, List.getElem?_cons_succ, List.set_cons_zero, List.set_cons_succ, v_add, sli_fro]
  rw [cut_i (by omega), ← List.map_take]
  have hL : ∃ L : List Nat, L = ((List.range 3).map (lx lf lb)).take (1 + t).toNat ∧ 0 < L.length ∧ L.length ≤ 3 ∧ Lett L := by
    refine ⟨_, rfl, by simp; omega, by simp; omega, fun x hx => ?_⟩
    obtain ⟨i, _, rfl⟩ := List.mem_map.mp (List.mem_of_mem_take hx)
    exact lx_in
  obtain ⟨L, eL, L0, L3, LL⟩ := hL
  rw [← eL]
  rw [wt_cons]
  simp only [ev, evs, evo, evT, evto, evF, evQ, evI, ex, wr_bind, wr_ok, wr_exc, wt_o, wt_seq, wt_turn, wt_next, wt_brk, wt_cont, wt_ret, wt_exc, Pl.R.bind_ok, Pl.R.o_ok, Pl.R.bind_exc, Pl.R.o_exc, List.getElem?_cons_zero, List.getElem?_cons_succ, List.set_cons_zero, List.set_cons_succ, List.length_nil, Nat.zero_le, if_true]
  show Wr (match pairsD [.str [108, 101, 116, 116, 101, 114, 115], .fro (L.map one), .str [109, 97, 99, 104, 105, 110, 101, 115], .ref 2, .str [114, 111, 119, 115], .ref 3, .str [109, 111, 118, 101, 115], .ref 4, .str [115, 116, 97, 110, 100, 115], .ref 5] with
    | some kvs => if kvs.length ≤ 15 then Pl.R.ok (D.ref 6) (B3.on [.lst [], .lst [], .lst [], .lst [], .dct (kvs.foldl (fun a kv => putD a kv.1 kv.2) [])]) else .bad
    | none => .bad) _ _
  have hk : (match pairsD [.str [108, 101, 116, 116, 101, 114, 115], .fro (L.map one), .str [109, 97, 99, 104, 105, 110, 101, 115], .ref 2, .str [114, 111, 119, 115], .ref 3, .str [109, 111, 118, 101, 115], .ref 4, .str [115, 116, 97, 110, 100, 115], .ref 5] with
    | some kvs => if kvs.length ≤ 15 then Pl.R.ok (D.ref 6) (B3.on [.lst [], .lst [], .lst [], .lst [], .dct (kvs.foldl (fun a kv => putD a kv.1 kv.2) [])]) else .bad
    | none => .bad) = Pl.R.ok (D.ref 6) (B3.on (plS ⟨L, [], [], [], []⟩)) := rfl
  rw [hk]
  simp only [ev, evs, evo, evT, evto, evF, evQ, evI, ex, wr_bind, wr_ok, wr_exc, wt_o, wt_seq, wt_turn, wt_next, wt_brk, wt_cont, wt_ret, wt_exc, Pl.R.bind_ok, Pl.R.o_ok, Pl.R.bind_exc, Pl.R.o_exc, List.getElem?_cons_zero, List.getElem?_cons_succ, List.set_cons_zero, List.set_cons_succ]
  rw [wt_cons]
  simp only [ev, evs, evo, evT, evto, evF, evQ, evI, ex, wr_bind, wr_ok, wr_exc, wt_o, wt_seq, wt_turn, wt_next, wt_brk, wt_cont, wt_ret, wt_exc, Pl.R.bind_ok, Pl.R.o_ok, Pl.R.bind_exc, Pl.R.o_exc, List.getElem?_cons_zero, List.getElem?_cons_succ, List.set_cons_zero, List.set_cons_succ]
  rw [if_pos (by omega)]
  simp only [ev, evs, evo, evT, evto, evF, evQ, evI, ex, wr_bind, wr_ok, wr_exc, wt_o, wt_seq, wt_turn, wt_next, wt_brk, wt_cont, wt_ret, wt_exc, Pl.R.bind_ok, Pl.R.o_ok, Pl.R.bind_exc, Pl.R.o_exc, List.getElem?_cons_zero, List.getElem?_cons_succ, List.set_cons_zero, List.set_cons_succ]
  refine for_map (fun i ρ S' => ∃ (p : Pla) (B' : Bg) (x8 x9 : Option D), ρ = [some (.ref 1), some (.int M), some (.int St), some (.int R), some (.int Mo), some (.fro (((List.range (Int.toNat 12)).map (nmL na nc nf nb)).map D.str)), some (.fro (L.map one)), some (.ref 6), x8, x9] ∧ S' = B'.on (plS p) ∧ p.lt = L ∧ p.rs = [] ∧ p.mv = [] ∧ i ≤ M.toNat ∧
    p.ms.map (·.1) = (List.range i).map (nmL na nc nf nb) ∧ p.sd.length = i ∧ (∀ (j : Nat) (q : List Nat × List Nat) (st : List (List Nat)), p.ms[j]? = some q → p.sd[j]? = some st → q.2 ∈ st) ∧ ∀ st ∈ p.sd, 0 < st.length ∧ (st.length : Int) ≤ St ∧ st.Nodup ∧ ∀ w ∈ st, Nam w)
    ⟨_, B3, none, none, rfl, rfl, rfl, rfl, rfl, Nat.zero_le _, rfl, rfl, (fun j q st z _ => by simp at z), (fun st z => nomatch z)⟩ (fun i a ρ S' ha hI => ?_) (fun ρ S' hI => ?_)
  · obtain ⟨p, B', x8, x9, rfl, rfl, q1, q2, q3, q4, q5, q6, q7, q8⟩ := hI
    have hai : a = i ∧ i < M.toNat := by
      obtain ⟨z1, z2⟩ := List.getElem?_eq_some_iff.mp ha
      simp at z1 z2
      exact ⟨z2.symm, by omega⟩
    obtain ⟨rfl, hi⟩ := hai
    refine ⟨[some (.ref 1), some (.int M), some (.int St), some (.int R), some (.int Mo), some (.fro (((List.range (Int.toNat 12)).map (nmL na nc nf nb)).map D.str)), some (.fro (L.map one)), some (.ref 6), some (.int (a : Int)), x9], rfl, ?_⟩
    rw [wt_cons]
    simp only [ev, evs, evo, evT, evto, evF, evQ, evI, ex, wr_bind, wr_ok, wr_exc, wt_o, wt_seq, wt_turn, wt_next, wt_brk, wt_cont, wt_ret, wt_exc, Pl.R.bind_ok, Pl.R.o_ok, Pl.R.bind_exc, Pl.R.o_exc, List.getElem?_cons_zero, List.getElem?_cons_succ, List.set_cons_zero, List.set_cons_succ]
    refine hn B' _ _ _ _ (by decide) (by decide) fun sa sc sf sb B4 sl sA sC sB => ?_
    try simp only [ev, evs, evo, evT, evto, evF, evQ, evI, ex, wr_bind, wr_ok, wr_exc, wt_o, wt_seq, wt_turn, wt_next, wt_brk, wt_cont, wt_ret, wt_exc, Pl.R.bind_ok, Pl.R.o_ok, Pl.R.bind_exc, Pl.R.o_exc, List.getElem?_cons_zero, List.getElem?_cons_succ, List.set_cons_zero, List.set_cons_succ]
    refine hp B4 _ _ _ _ (by omega) (by omega) fun u B5 u0 u1 => ?_
    simp only [ev, evs, evo, evT, evto, evF, evQ, evI, ex, wr_bind, wr_ok, wr_exc, wt_o, wt_seq, wt_turn, wt_next, wt_brk, wt_cont, wt_ret, wt_exc, Pl.R.bind_ok, Pl.R.o_ok, Pl.R.bind_exc, Pl.R.o_exc, List.getElem?_cons_zero, List.getElem?_cons_succ, List.set_cons_zero, List.set_cons_succ, v_add, sli_fro]
    rw [cut_i (by omega), ← List.map_take]
    have hSt : ∃ st : List (List Nat), st = ((List.range (Int.toNat 6)).map (nmL sa sc sf sb)).take (1 + u).toNat ∧ 0 < st.length ∧ (st.length : Int) ≤ St ∧ st.Nodup ∧ ∀ w ∈ st, Nam w := by
      refine ⟨_, rfl, by simp; omega, by simp; omega, ?_, fun w hw => ?_⟩
      · have := nodup_names (a := sa) (c := sc) (f := sf) sB (s := 0) (n := 6) (by decide)
        simp only [Nat.zero_add] at this
        exact this.sublist (List.take_sublist _ _)
      · obtain ⟨i, _, rfl⟩ := List.mem_map.mp (List.mem_of_mem_take hw)
        exact nam_of sl sA sC
    obtain ⟨st, est, st0, st1, st2, st3⟩ := hSt
    rw [← est]
    rw [wt_cons]
    simp only [ev, evs, evo, evT, evto, evF, evQ, evI, ex, wr_bind, wr_ok, wr_exc, wt_o, wt_seq, wt_turn, wt_next, wt_brk, wt_cont, wt_ret, wt_exc, Pl.R.bind_ok, Pl.R.o_ok, Pl.R.bind_exc, Pl.R.o_exc, List.getElem?_cons_zero, List.getElem?_cons_succ, List.set_cons_zero, List.set_cons_succ, ps_sd, ps_5]
    have hsl : (p.sd.map dSs).length < lim := by rw [List.length_map, q6]; show _ < 100000; omega
    rw [if_pos hsl]
    simp only [ev, evs, evo, evT, evto, evF, evQ, evI, ex, wr_bind, wr_ok, wr_exc, wt_o, wt_seq, wt_turn, wt_next, wt_brk, wt_cont, wt_ret, wt_exc, Pl.R.bind_ok, Pl.R.o_ok, Pl.R.bind_exc, Pl.R.o_exc, List.getElem?_cons_zero, List.getElem?_cons_succ, List.set_cons_zero, List.set_cons_succ]
    rw [show D.fro (st.map D.str) = dSs st from rfl, ps_s5]
    rw [wt_cons]
    have hname : ((List.range (Int.toNat 12)).map (nmL na nc nf nb))[a]? = some (nmL na nc nf nb a) := by
      rw [List.getElem?_map, List.getElem?_range (by show a < 12; omega)]
      rfl
    simp only [ev, evs, evo, evT, evto, evF, evQ, evI, ex, wr_bind, wr_ok, wr_exc, wt_o, wt_seq, wt_turn, wt_next, wt_brk, wt_cont, wt_ret, wt_exc, Pl.R.bind_ok, Pl.R.o_ok, Pl.R.bind_exc, Pl.R.o_exc, List.getElem?_cons_zero, List.getElem?_cons_succ, List.set_cons_zero, List.set_cons_succ, ps_ms, ps_2, fro_at hname]
    refine ho.map (as := st) (e := D.str) st0 (by omega) (fun _ => rfl) fun w B6 hw6 => ?_
    try dsimp only
    rw [if_pos (by first | decide | (simp only [List.length_cons, List.length_nil]; decide))]
    simp only [ev, evs, evo, evT, evto, evF, evQ, evI, ex, wr_bind, wr_ok, wr_exc, wt_o, wt_seq, wt_turn, wt_next, wt_brk, wt_cont, wt_ret, wt_exc, Pl.R.bind_ok, Pl.R.o_ok, Pl.R.bind_exc, Pl.R.o_exc, List.getElem?_cons_zero, List.getElem?_cons_succ, List.set_cons_zero, List.set_cons_succ, ps_2]
    have hml : p.ms.length = a := by
      have := congrArg List.length q5
      simpa using this
    rw [if_pos (by rw [List.length_map]; show p.ms.length < 100000; omega)]
    simp only [ev, evs, evo, evT, evto, evF, evQ, evI, ex, wr_bind, wr_ok, wr_exc, wt_o, wt_seq, wt_turn, wt_next, wt_brk, wt_cont, wt_ret, wt_exc, Pl.R.bind_ok, Pl.R.o_ok, Pl.R.bind_exc, Pl.R.o_exc, List.getElem?_cons_zero, List.getElem?_cons_succ, List.set_cons_zero, List.set_cons_succ]
    rw [show D.tup [.str (nmL na nc nf nb a), .str w] = dPr (nmL na nc nf nb a, w) from rfl, ps_s2]
    rw [wt_nil]
    refine ⟨_, B6, some (.int (a : Int)), some (dSs st), rfl, rfl, q1, q2, q3, hi, ?_, ?_, ?_, ?_⟩
    · show (p.ms ++ [_]).map _ = _
      rw [List.map_append, q5, List.range_succ, List.map_append]
      rfl
    · show (p.sd ++ [st]).length = _
      rw [List.length_append, q6]; rfl
    · intro j q st' z1 z2
      replace z1 : (p.ms ++ [(nmL na nc nf nb a, w)])[j]? = some q := z1
      replace z2 : (p.sd ++ [st])[j]? = some st' := z2
      by_cases hj : j < a
      · rw [List.getElem?_append_left (by omega)] at z1 z2
        exact q7 j q st' z1 z2
      · rw [List.getElem?_append_right (by omega)] at z1 z2
        have e1 := (List.getElem?_eq_some_iff.mp z1).1
        simp at e1
        have hj0 : j - p.ms.length = 0 := by omega
        have hj1 : j - p.sd.length = 0 := by omega
        rw [hj0] at z1
        rw [hj1] at z2
        simp at z1 z2
        subst z1 z2
        exact hw6
    · intro st' hst'
      replace hst' : st' ∈ p.sd ++ [st] := hst'
      rcases List.mem_append.mp hst' with z | z
      · exact q8 st' z
      · have : st' = st := by simpa using z
        rw [this]
        exact ⟨st0, st1, st2, st3⟩
  obtain ⟨p, B', x8, x9, rfl, rfl, q1, q2, q3, q4, q5, q6, q7, q8⟩ := hI
  rw [List.length_range] at q5 q6
  have hml : p.ms.length = M.toNat := by
    have := congrArg List.length q5
    simpa using this
  try dsimp only
  rw [wt_cons]
  simp only [ev, evs, evo, evT, evto, evF, evQ, evI, ex, wr_bind, wr_ok, wr_exc, wt_o, wt_seq, wt_turn, wt_next, wt_brk, wt_cont, wt_ret, wt_exc, Pl.R.bind_ok, Pl.R.o_ok, Pl.R.bind_exc, Pl.R.o_exc, List.getElem?_cons_zero, List.getElem?_cons_succ, List.set_cons_zero, List.set_cons_succ]
  rw [if_pos (by omega)]
  simp only [ev, evs, evo, evT, evto, evF, evQ, evI, ex, wr_bind, wr_ok, wr_exc, wt_o, wt_seq, wt_turn, wt_next, wt_brk, wt_cont, wt_ret, wt_exc, Pl.R.bind_ok, Pl.R.o_ok, Pl.R.bind_exc, Pl.R.o_exc, List.getElem?_cons_zero, List.getElem?_cons_succ, List.set_cons_zero, List.set_cons_succ]
  refine for_map (fun i ρ S' => ∃ (rs : List (List Nat × List Nat)) (B' : Bg) (x8 x9 : Option D), ρ = [some (.ref 1), some (.int M), some (.int St), some (.int R), some (.int Mo), some (.fro (((List.range (Int.toNat 12)).map (nmL na nc nf nb)).map D.str)), some (.fro (L.map one)), some (.ref 6), x8, x9] ∧ S' = B'.on (plS { p with rs := rs }) ∧
    rs.map (·.1) = (List.range i).map (fun k => nmL na nc nf nb (5 + k)) ∧ (∀ q ∈ rs, q.2.length ≤ 2 ∧ ∀ c ∈ q.2, c ∈ L))
    ⟨[], B', x8, x9, rfl, (by rw [← q2]), rfl, (fun st z => nomatch z)⟩ (fun i a ρ S' ha hI => ?_) (fun ρ S' hI => ?_)
  · obtain ⟨rs, B', x8, x9, rfl, rfl, w1, w2⟩ := hI
    have hai : a = i ∧ i < R.toNat := by
      obtain ⟨z1, z2⟩ := List.getElem?_eq_some_iff.mp ha
      simp at z1 z2
      exact ⟨z2.symm, by omega⟩
    obtain ⟨rfl, hi⟩ := hai
    refine ⟨[some (.ref 1), some (.int M), some (.int St), some (.int R), some (.int Mo), some (.fro (((List.range (Int.toNat 12)).map (nmL na nc nf nb)).map D.str)), some (.fro (L.map one)), some (.ref 6), some (.int (a : Int)), x9], rfl, ?_⟩
    have hrl : rs.length = a := by
      have := congrArg List.length w1
      simpa using this
    rw [wt_cons]
    have hname : ((List.range (Int.toNat 12)).map (nmL na nc nf nb))[5 + a]? = some (nmL na nc nf nb (5 + a)) := by
      rw [List.getElem?_map, List.getElem?_range (by show 5 + a < 12; omega)]
      rfl
    have hname2 : ∀ S, idxV (.fro (((List.range (Int.toNat 12)).map (nmL na nc nf nb)).map D.str)) (.int (5 + (a : Int))) S = .ok (.str (nmL na nc nf nb (5 + a))) S := fun S => by
      rw [show (5 + (a : Int)) = ((5 + a : Nat) : Int) by omega]
      exact fro_at hname
    simp only [ev, evs, evo, evT, evto, evF, evQ, evI, ex, wr_bind, wr_ok, wr_exc, wt_o, wt_seq, wt_turn, wt_next, wt_brk, wt_cont, wt_ret, wt_exc, Pl.R.bind_ok, Pl.R.o_ok, Pl.R.bind_exc, Pl.R.o_exc, List.getElem?_cons_zero, List.getElem?_cons_succ, List.set_cons_zero, List.set_cons_succ, ps_rs, ps_3, v_add, hname2]
    refine hw B' L 2 _ _ _ L0 (by omega) (by decide) (by decide) fun w B6 hw1 hw2 => ?_
    try dsimp only
    rw [if_pos (by first | decide | (simp only [List.length_cons, List.length_nil]; decide))]
    simp only [ev, evs, evo, evT, evto, evF, evQ, evI, ex, wr_bind, wr_ok, wr_exc, wt_o, wt_seq, wt_turn, wt_next, wt_brk, wt_cont, wt_ret, wt_exc, Pl.R.bind_ok, Pl.R.o_ok, Pl.R.bind_exc, Pl.R.o_exc, List.getElem?_cons_zero, List.getElem?_cons_succ, List.set_cons_zero, List.set_cons_succ, ps_3]
    rw [if_pos (by rw [List.length_map]; show rs.length < 100000; omega)]
    simp only [ev, evs, evo, evT, evto, evF, evQ, evI, ex, wr_bind, wr_ok, wr_exc, wt_o, wt_seq, wt_turn, wt_next, wt_brk, wt_cont, wt_ret, wt_exc, Pl.R.bind_ok, Pl.R.o_ok, Pl.R.bind_exc, Pl.R.o_exc, List.getElem?_cons_zero, List.getElem?_cons_succ, List.set_cons_zero, List.set_cons_succ]
    rw [show D.tup [.str (nmL na nc nf nb (5 + a)), .str w] = dPr (nmL na nc nf nb (5 + a), w) from rfl]
    have e3 := ps_s3 (p := { p with rs := rs }) (B := B6) (q := (nmL na nc nf nb (5 + a), w))
    rw [e3]
    rw [wt_nil]
    refine ⟨rs ++ [(nmL na nc nf nb (5 + a), w)], B6, some (.int (a : Int)), x9, rfl, rfl, ?_, fun q hq => ?_⟩
    · rw [List.map_append, w1, List.range_succ, List.map_append]
      rfl
    · rcases List.mem_append.mp hq with z | z
      · exact w2 q z
      · have : q = (nmL na nc nf nb (5 + a), w) := by simpa using z
        rw [this]
        exact ⟨by show w.length ≤ 2; omega, hw2⟩
  obtain ⟨rs, B'', x8', x9', rfl, rfl, w1, w2⟩ := hI
  rw [List.length_range] at w1
  have hrl : rs.length = R.toNat := by
    have := congrArg List.length w1
    simpa using this
  have rN : ∀ q ∈ rs, Nam q.1 ∧ q.2.length ≤ 2 ∧ ∀ c ∈ q.2, c ∈ L := fun q hq => by
    refine ⟨?_, w2 q hq⟩
    have : q.1 ∈ rs.map (·.1) := List.mem_map_of_mem hq
    rw [w1] at this
    obtain ⟨i, _, e⟩ := List.mem_map.mp this
    rw [← e]
    exact nam_of nl nA nC
  have mN : ∀ q ∈ p.ms, Nam q.1 := fun q hq => by
    have : q.1 ∈ p.ms.map (·.1) := List.mem_map_of_mem hq
    rw [q5] at this
    obtain ⟨i, _, e⟩ := List.mem_map.mp this
    rw [← e]
    exact nam_of nl nA nC
  try dsimp only
  rw [wt_cons]
  have hib : ∀ S : Sto, binV .mul (.int Mo) (.int (if decide (0 < M) = true then 1 else 0)) S = .ok (.int (if 0 < M then Mo else 0)) S := fun S => by
    by_cases z : 0 < M
    · simp only [z, decide_true, if_true]
      rw [v_mul (by decide) (by decide), Int.mul_one]
    · simp only [z, decide_false, if_false, Bool.false_eq_true]
      rw [v_mul (by decide) (by decide), Int.mul_zero]
  simp only [ev, evs, evo, evT, evto, evF, evQ, evI, ex, wr_bind, wr_ok, wr_exc, wt_o, wt_seq, wt_turn, wt_next, wt_brk, wt_cont, wt_ret, wt_exc, Pl.R.bind_ok, Pl.R.o_ok, Pl.R.bind_exc, Pl.R.o_exc, List.getElem?_cons_zero, List.getElem?_cons_succ, List.set_cons_zero, List.set_cons_succ, c_gt]
  rw [hib]
  simp only [ev, evs, evo, evT, evto, evF, evQ, evI, ex, wr_bind, wr_ok, wr_exc, wt_o, wt_seq, wt_turn, wt_next, wt_brk, wt_cont, wt_ret, wt_exc, Pl.R.bind_ok, Pl.R.o_ok, Pl.R.bind_exc, Pl.R.o_exc, List.getElem?_cons_zero, List.getElem?_cons_succ, List.set_cons_zero, List.set_cons_succ]
  rw [if_pos (by split <;> omega)]
  simp only [ev, evs, evo, evT, evto, evF, evQ, evI, ex, wr_bind, wr_ok, wr_exc, wt_o, wt_seq, wt_turn, wt_next, wt_brk, wt_cont, wt_ret, wt_exc, Pl.R.bind_ok, Pl.R.o_ok, Pl.R.bind_exc, Pl.R.o_exc, List.getElem?_cons_zero, List.getElem?_cons_succ, List.set_cons_zero, List.set_cons_succ]
  refine for_map (fun i ρ S' => ∃ (mv : List Mv) (B' : Bg) (x8 x9 : Option D), ρ = [some (.ref 1), some (.int M), some (.int St), some (.int R), some (.int Mo), some (.fro (((List.range (Int.toNat 12)).map (nmL na nc nf nb)).map D.str)), some (.fro (L.map one)), some (.ref 6), x8, x9] ∧ S' = B'.on (plS { p with rs := rs, mv := mv }) ∧
    mv.length = i ∧ (∀ v ∈ mv, MvOk { p with rs := rs } v))
    ⟨[], B'', x8', x9', rfl, (by rw [← q3]), rfl, (fun st z => nomatch z)⟩ (fun i a ρ S' ha hI => ?_) (fun ρ S' hI => ?_)
  · obtain ⟨mv, B', x8, x9, rfl, rfl, v1, v2⟩ := hI
    have hai : a = i ∧ 0 < M ∧ (i : Int) < Mo := by
      obtain ⟨z1, z2⟩ := List.getElem?_eq_some_iff.mp ha
      simp at z1 z2
      split at z1
      · exact ⟨z2.symm, by assumption, by omega⟩
      · omega
    obtain ⟨rfl, hM, hi⟩ := hai
    refine ⟨[some (.ref 1), some (.int M), some (.int St), some (.int R), some (.int Mo), some (.fro (((List.range (Int.toNat 12)).map (nmL na nc nf nb)).map D.str)), some (.fro (L.map one)), some (.ref 6), some (.int (a : Int)), x9], rfl, ?_⟩
    rw [wt_cons]
    simp only [ev, evs, evo, evT, evto, evF, evQ, evI, ex, wr_bind, wr_ok, wr_exc, wt_o, wt_seq, wt_turn, wt_next, wt_brk, wt_cont, wt_ret, wt_exc, Pl.R.bind_ok, Pl.R.o_ok, Pl.R.bind_exc, Pl.R.o_exc, List.getElem?_cons_zero, List.getElem?_cons_succ, List.set_cons_zero, List.set_cons_succ, ps_mv, ps_4]
    refine hm B' { p with rs := rs, mv := mv } true _ _ _ _ (by rw [if_pos rfl]; exact ps_frz) (by show 0 < p.lt.length; rw [q1]; exact L0) (by show p.lt.length ≤ _; rw [q1]; omega) (by show rs.length ≤ _; omega) (fun q hq => ⟨(rN q hq).1, fun c hc => LL c ((rN q hq).2.2 c hc)⟩) ⟨by show p.sd.length = p.ms.length; omega, by show p.ms.length ≤ _; omega, fun st hst => ⟨(q8 st hst).1, by have := (q8 st hst).2.1; omega⟩⟩ (by show 0 < p.ms.length; omega) fun v B6 hv => ?_
    simp only [ev, evs, evo, evT, evto, evF, evQ, evI, ex, wr_bind, wr_ok, wr_exc, wt_o, wt_seq, wt_turn, wt_next, wt_brk, wt_cont, wt_ret, wt_exc, Pl.R.bind_ok, Pl.R.o_ok, Pl.R.bind_exc, Pl.R.o_exc, List.getElem?_cons_zero, List.getElem?_cons_succ, List.set_cons_zero, List.set_cons_succ, ps_4]
    rw [if_pos (by rw [List.length_map]; show mv.length < 100000; omega)]
    simp only [ev, evs, evo, evT, evto, evF, evQ, evI, ex, wr_bind, wr_ok, wr_exc, wt_o, wt_seq, wt_turn, wt_next, wt_brk, wt_cont, wt_ret, wt_exc, Pl.R.bind_ok, Pl.R.o_ok, Pl.R.bind_exc, Pl.R.o_exc, List.getElem?_cons_zero, List.getElem?_cons_succ, List.set_cons_zero, List.set_cons_succ]
    have e3 := ps_s4 (p := { p with rs := rs, mv := mv }) (B := B6) (q := v)
    rw [e3]
    rw [wt_nil]
    refine ⟨mv ++ [v], B6, some (.int (a : Int)), x9, rfl, rfl, by simp [v1], fun q hq => ?_⟩
    rcases List.mem_append.mp hq with z | z
    · exact v2 q z
    · have : q = v := by simpa using z
      rw [this]
      exact ⟨hv.m, by have := hv.a; cases hva : v.a <;> (rw [hva] at this; exact this)⟩
  obtain ⟨mv, B3', x8'', x9'', rfl, rfl, v1, v2⟩ := hI
  rw [List.length_range] at v1
  try dsimp only
  rw [wt_cons]
  simp only [ev, evs, evo, evT, evto, evF, evQ, evI, ex, wr_bind, wr_ok, wr_exc, wt_o, wt_seq, wt_turn, wt_next, wt_brk, wt_cont, wt_ret, wt_exc, Pl.R.bind_ok, Pl.R.o_ok, Pl.R.bind_exc, Pl.R.o_exc, List.getElem?_cons_zero, List.getElem?_cons_succ, List.set_cons_zero, List.set_cons_succ]
  refine ⟨B3', _, dPla { p with rs := rs, mv := mv }, rfl, ps_frz6, h _ B3' ?_ hml hrl ?_ fun st hst => (q8 st hst).2.1⟩
  · refine ⟨by show 0 < p.lt.length; rw [q1]; exact L0, by show p.lt.length ≤ 3; rw [q1]; exact L3, by show Lett p.lt; rw [q1]; exact LL, by show p.sd.length = p.ms.length; omega, by show p.ms.length ≤ 5; omega, ?_, mN, q7, fun st hst => ?_, by show rs.length ≤ 7; omega, ?_, fun q hq => ?_, ?_, fun v hv => ?_⟩
    · show (p.ms.map _).Nodup
      rw [q5]
      have := nodup_names (a := na) (c := nc) (f := nf) nB (s := 0) (n := M.toNat) (by omega)
      simpa using this
    · obtain ⟨z1, z2, z3, z4⟩ := q8 st hst
      exact ⟨z1, by omega, z3, z4⟩
    · show (rs.map _).Nodup
      rw [w1]
      exact nodup_names nB (by omega)
    · show Nam q.1 ∧ q.2.length ≤ 2 ∧ ∀ c ∈ q.2, c ∈ p.lt
      rw [q1]
      exact rN q hq
    · show mv.length ≤ 1000
      rw [v1]
      split <;> omega
    · have := v2 v hv
      exact ⟨this.m, by have := this.a; cases hva : v.a <;> (rw [hva] at this; exact this)⟩
  · show mv.length = _
    rw [v1]
    split <;> rfl
end
end Pl

set_option maxHeartbeats 4000000
/-! Shared defs: scenes are drawn; one above another. -/
namespace Pl
open PySem L2
theorem dedL_mem {w : List Nat} : ∀ (xs acc : List (List Nat)), w ∈ xs.foldl (fun l x => if x ∈ l then l else x :: l) acc ↔ w ∈ xs ∨ w ∈ acc
  | [], acc => by simp
  | x :: xs, acc => by
    rw [List.foldl_cons, dedL_mem xs]
    by_cases h : x ∈ acc
    · rw [if_pos h]
      simp only [List.mem_cons]
      constructor
      · rintro (h1 | h1)
        · exact .inl (.inr h1)
        · exact .inr h1
      · rintro ((rfl | h1) | h1)
        · exact .inr h
        · exact .inl h1
        · exact .inr h1
    · rw [if_neg h]
      simp only [List.mem_cons]
      constructor
      · rintro (h1 | rfl | h1)
        · exact .inl (.inr h1)
        · exact .inl (.inl rfl)
        · exact .inr h1
      · rintro ((rfl | h1) | h1)
        · exact .inr (.inl rfl)
        · exact .inl h1
        · exact .inr (.inr h1)
theorem mem_held {w : List Nat} {xs : List (List Nat)} : w ∈ sortL (dedL xs) ↔ w ∈ xs := by
  unfold sortL
  rw [(List.mergeSort_perm _ _).mem_iff]
  unfold dedL
  rw [dedL_mem]
  simp
def mvS (q : List Nat) (v : Mv) : List (List Nat) := if v.m = q then [v.s, v.e] else []
/-- a machine's stands -/
def heldL (mv : List Mv) (q : List Nat × List Nat) : List (List Nat) := sortL (dedL (q.2 :: mv.flatMap (mvS q.1)))
theorem mvS_len {q : List Nat} {v : Mv} : (mvS q v).length ≤ 2 := by unfold mvS; split <;> simp
theorem flat_len {q : List Nat} : ∀ mv : List Mv, (mv.flatMap (mvS q)).length ≤ 2 * mv.length
  | [] => by simp
  | v :: mv => by
    rw [List.flatMap_cons, List.length_append, List.length_cons]
    have := flat_len (q := q) mv
    have := mvS_len (q := q) (v := v)
    omega
section
variable {T : Tab} {G : Nat → Option D} {C : Nat → List D → Sto → R D}
theorem strsD_map : ∀ xs : List (List Nat), strsD (xs.map D.str) = some xs
  | [] => rfl
  | x :: xs => by rw [List.map_cons]; simp only [strsD, strsD_map xs, Option.map_some]
def SpHeld (C : Nat → List D → Sto → R D) : Prop := ∀ (p : Pla) (i : Nat) (q : List Nat × List Nat) (S : Sto), p.ms[i]? = some q → p.mv.length ≤ 31 → scp 0 false (C 10) [dPla p, .int (i : Int)] S = .ok (dSs (heldL p.mv q)) S
theorem held_ok (hT : T 10 = some f__law_held) (k : Nat) : SpHeld (run T G (k + 1)) := fun p i q S hq hm => by
  refine pur hT rfl (by show (closedD 0 (dPla p) && true) = true; rw [cl_Pla]; rfl) ?_ S
  show Wt (exs _ _ f__law_held.body [some (dPla p), some (.int (i : Int)), none, none, none, none, none, none, none] []) _
  unfold f__law_held
  rw [wt_cons]
  simp only [ev, evs, evo, evT, evto, evF, evQ, evI, ex, wr_bind, wr_ok, wr_exc, wt_o, wt_seq, wt_turn, wt_next, wt_brk, wt_cont, wt_ret, wt_exc, Pl.R.bind_ok, Pl.R.o_ok, Pl.R.bind_exc, Pl.R.o_exc, List.getElem?_cons_zero, List.getElem?_cons_succ, List.set_cons_zero, List.set_cons_succ, pl_ms, fro_at hq]
  have hb : bindTg [3, 4] true (dPr q) [some (dPla p), some (.int (i : Int)), none, none, none, none, none, none, none] = some [some (dPla p), some (.int (i : Int)), none, some (.str q.1), some (.str q.2), none, none, none, none] := rfl
  rw [hb]
  simp only [ev, evs, evo, evT, evto, evF, evQ, evI, ex, wr_bind, wr_ok, wr_exc, wt_o, wt_seq, wt_turn, wt_next, wt_brk, wt_cont, wt_ret, wt_exc, Pl.R.bind_ok, Pl.R.o_ok, Pl.R.bind_exc, Pl.R.o_exc, List.getElem?_cons_zero, List.getElem?_cons_succ, List.set_cons_zero, List.set_cons_succ]
  rw [wt_cons]
  simp only [ev, evs, evo, evT, evto, evF, evQ, evI, ex, wr_bind, wr_ok, wr_exc, wt_o, wt_seq, wt_turn, wt_next, wt_brk, wt_cont, wt_ret, wt_exc, Pl.R.bind_ok, Pl.R.o_ok, Pl.R.bind_exc, Pl.R.o_exc, List.getElem?_cons_zero, List.getElem?_cons_succ, List.set_cons_zero, List.set_cons_succ, List.length_cons, List.length_nil]
  rw [if_pos (by first | decide | (simp only [List.length_cons, List.length_nil]; decide))]
  simp only [ev, evs, evo, evT, evto, evF, evQ, evI, ex, wr_bind, wr_ok, wr_exc, wt_o, wt_seq, wt_turn, wt_next, wt_brk, wt_cont, wt_ret, wt_exc, Pl.R.bind_ok, Pl.R.o_ok, Pl.R.bind_exc, Pl.R.o_exc, List.getElem?_cons_zero, List.getElem?_cons_succ, List.set_cons_zero, List.set_cons_succ]
  rw [wt_cons]
  simp only [ev, evs, evo, evT, evto, evF, evQ, evI, ex, wr_bind, wr_ok, wr_exc, wt_o, wt_seq, wt_turn, wt_next, wt_brk, wt_cont, wt_ret, wt_exc, Pl.R.bind_ok, Pl.R.o_ok, Pl.R.bind_exc, Pl.R.o_exc, List.getElem?_cons_zero, List.getElem?_cons_succ, List.set_cons_zero, List.set_cons_succ, pl_mv, seqV]
  refine for_map (fun j ρ S' => ∃ x5 x6 x7 x8, S' = [] ∧ ρ = [some (dPla p), some (.int (i : Int)), some (.fro ((q.2 :: (p.mv.take j).flatMap (mvS q.1)).map D.str)), some (.str q.1), some (.str q.2), x5, x6, x7, x8]) ⟨none, none, none, none, rfl, rfl⟩ (fun j v ρ S' hv hI => ?_) (fun ρ S' hI => ?_)
  · obtain ⟨x5, x6, x7, x8, rfl, rfl⟩ := hI
    refine ⟨[some (dPla p), some (.int (i : Int)), some (.fro ((q.2 :: (p.mv.take j).flatMap (mvS q.1)).map D.str)), some (.str q.1), some (.str q.2), some (.str v.m), some (.str v.s), some (dAc v.a), some (.str v.e)], rfl, ?_⟩
    have ht : p.mv.take (j + 1) = p.mv.take j ++ [v] := by rw [List.take_add_one, hv]; rfl
    have hl : ((p.mv.take j).flatMap (mvS q.1)).length ≤ 62 := by
      have := flat_len (q := q.1) (p.mv.take j)
      rw [List.length_take] at this
      omega
    rw [wt_cons]
    simp only [ev, evs, evo, evT, evto, evF, evQ, evI, ex, wr_bind, wr_ok, wr_exc, wt_o, wt_seq, wt_turn, wt_next, wt_brk, wt_cont, wt_ret, wt_exc, Pl.R.bind_ok, Pl.R.o_ok, Pl.R.bind_exc, Pl.R.o_exc, List.getElem?_cons_zero, List.getElem?_cons_succ, List.set_cons_zero, List.set_cons_succ, c_eqs]
    by_cases e : v.m = q.1
    · simp only [e, decide_true, ev, evs, evo, evT, evto, evF, evQ, evI, ex, wr_bind, wr_ok, wr_exc, wt_o, wt_seq, wt_turn, wt_next, wt_brk, wt_cont, wt_ret, wt_exc, Pl.R.bind_ok, Pl.R.o_ok, Pl.R.bind_exc, Pl.R.o_exc, List.getElem?_cons_zero, List.getElem?_cons_succ, List.set_cons_zero, List.set_cons_succ, List.length_cons, List.length_nil]
      rw [wt_cons]
      simp only [ev, evs, evo, evT, evto, evF, evQ, evI, ex, wr_bind, wr_ok, wr_exc, wt_o, wt_seq, wt_turn, wt_next, wt_brk, wt_cont, wt_ret, wt_exc, Pl.R.bind_ok, Pl.R.o_ok, Pl.R.bind_exc, Pl.R.o_exc, List.getElem?_cons_zero, List.getElem?_cons_succ, List.set_cons_zero, List.set_cons_succ, List.length_cons, List.length_nil]
      rw [if_pos (by first | decide | (simp only [List.length_cons, List.length_nil]; decide))]
      simp only [ev, evs, evo, evT, evto, evF, evQ, evI, ex, wr_bind, wr_ok, wr_exc, wt_o, wt_seq, wt_turn, wt_next, wt_brk, wt_cont, wt_ret, wt_exc, Pl.R.bind_ok, Pl.R.o_ok, Pl.R.bind_exc, Pl.R.o_exc, List.getElem?_cons_zero, List.getElem?_cons_succ, List.set_cons_zero, List.set_cons_succ]
      rw [add_fro (by simp only [List.length_cons, List.length_map, List.length_nil]; omega)]
      simp only [ev, evs, evo, evT, evto, evF, evQ, evI, ex, wr_bind, wr_ok, wr_exc, wt_o, wt_seq, wt_turn, wt_next, wt_brk, wt_cont, wt_ret, wt_exc, Pl.R.bind_ok, Pl.R.o_ok, Pl.R.bind_exc, Pl.R.o_exc, List.getElem?_cons_zero, List.getElem?_cons_succ, List.set_cons_zero, List.set_cons_succ]
      rw [wt_nil]
      have hx : (q.2 :: (p.mv.take (j + 1)).flatMap (mvS q.1)).map D.str = (q.2 :: (p.mv.take j).flatMap (mvS q.1)).map D.str ++ [.str v.s, .str v.e] := by
        rw [ht, List.flatMap_append]
        simp [mvS, e]
      rw [hx]
      exact ⟨some (.str q.1), some (.str v.s), some (dAc v.a), some (.str v.e), rfl, rfl⟩
    · simp only [e, decide_false, ev, evs, evo, evT, evto, evF, evQ, evI, ex, wr_bind, wr_ok, wr_exc, wt_o, wt_seq, wt_turn, wt_next, wt_brk, wt_cont, wt_ret, wt_exc, Pl.R.bind_ok, Pl.R.o_ok, Pl.R.bind_exc, Pl.R.o_exc, List.getElem?_cons_zero, List.getElem?_cons_succ, List.set_cons_zero, List.set_cons_succ]
      rw [wt_nil]
      have hx : (q.2 :: (p.mv.take (j + 1)).flatMap (mvS q.1)).map D.str = (q.2 :: (p.mv.take j).flatMap (mvS q.1)).map D.str := by
        rw [ht, List.flatMap_append]
        simp [mvS, e]
      rw [hx]
      exact ⟨some (.str v.m), some (.str v.s), some (dAc v.a), some (.str v.e), rfl, rfl⟩
  · obtain ⟨x5, x6, x7, x8, rfl, rfl⟩ := hI
    rw [List.take_length]
    have hl : (p.mv.flatMap (mvS q.1)).length ≤ 62 := by
      have := flat_len (q := q.1) p.mv
      omega
    try dsimp only
    rw [wt_cons]
    simp only [ev, evs, evo, evT, evto, evF, evQ, evI, ex, wr_bind, wr_ok, wr_exc, wt_o, wt_seq, wt_turn, wt_next, wt_brk, wt_cont, wt_ret, wt_exc, Pl.R.bind_ok, Pl.R.o_ok, Pl.R.bind_exc, Pl.R.o_exc, List.getElem?_cons_zero, List.getElem?_cons_succ, List.set_cons_zero, List.set_cons_succ, seqV, Bool.false_eq_true, if_false, strsD_map]
    rw [if_pos (by rw [List.length_cons]; omega)]
    simp only [ev, evs, evo, evT, evto, evF, evQ, evI, ex, wr_bind, wr_ok, wr_exc, wt_o, wt_seq, wt_turn, wt_next, wt_brk, wt_cont, wt_ret, wt_exc, Pl.R.bind_ok, Pl.R.o_ok, Pl.R.bind_exc, Pl.R.o_exc, List.getElem?_cons_zero, List.getElem?_cons_succ, List.set_cons_zero, List.set_cons_succ]
    exact frz_cl cl_Ss
/-! ### scenes -/
structure Sc where
  st : List (List Nat)
  ws : List (List Nat)
def dSc (s : Sc) : D := .tup [.tup (s.st.map D.str), .tup (s.ws.map D.str)]
@[simp] theorem cl_Sc {m : Nat} {s : Sc} : closedD m (dSc s) = true := by
  show (closedL m (s.st.map D.str) && (closedL m (s.ws.map D.str) && true)) = true
  rw [closedL_map fun _ => rfl, closedL_map fun _ => rfl]; rfl
/-- a scene of a drawn lab, its words no longer than top -/
structure ScOk (p : Pla) (top : Nat) (s : Sc) : Prop where
  sl : s.st.length = p.ms.length
  sh : ∀ (i : Nat) (w : List Nat) (q : List Nat × List Nat), s.st[i]? = some w → p.ms[i]? = some q → w ∈ heldL p.mv q
  wl : s.ws.length = p.rs.length
  wk : ∀ w ∈ s.ws, w.length ≤ top ∧ ∀ c ∈ w, c ∈ p.lt
/-- a walk that draws: things told one by one -/
theorem lc_draw {β : Type} {e : β → D} {Q : Nat → β → Prop} {f : D → Sto → R (Option D)} {ds : List D} {B : Bg} {S : Sto} {P : List D → Sto → Prop} {X : Xc → Sto → Prop} (hf : ∀ (i : Nat) (d : D) (B : Bg), ds[i]? = some d → Wr (f d (B.on S)) (fun o S' => ∃ (b : β) (B' : Bg), o = some (e b) ∧ Q i b ∧ S' = B'.on S) no2)
    (h : ∀ (bs : List β) (B' : Bg), bs.length = ds.length → (∀ (i : Nat) (b : β), bs[i]? = some b → Q i b) → P (bs.map e) (B'.on S)) : Wr (lcL [] f ds (B.on S)) P X := by
  refine lc_inv (fun i acc S' => ∃ (bs : List β) (B' : Bg), acc = bs.map e ∧ bs.length = i ∧ (∀ (i : Nat) (b : β), bs[i]? = some b → Q i b) ∧ S' = B'.on S) ⟨[], B, rfl, rfl, (fun i b z => by simp at z), rfl⟩ (fun i d acc S' hd hI => ?_) (fun _ _ _ _ _ _ _ _ n hn => nomatch hn) fun acc S' hI => ?_
  · obtain ⟨bs, B', rfl, hl, hq, rfl⟩ := hI
    refine (hf i d B' hd).mono (fun o S2 ⟨b, B2, h1, h2, h3⟩ => ?_) fun _ _ z => z
    subst h1 h3
    refine ⟨bs ++ [b], B2, by simp, by simp [hl], fun j x hx => ?_, rfl⟩
    by_cases hj : j < bs.length
    · rw [List.getElem?_append_left hj] at hx
      exact hq j x hx
    · rw [List.getElem?_append_right (by omega)] at hx
      have e1 := (List.getElem?_eq_some_iff.mp hx).1
      simp at e1
      have hj0 : j - bs.length = 0 := by omega
      rw [hj0] at hx
      have : b = x := by simpa using hx
      subst this
      have : j = i := by omega
      rw [this]
      exact h2
  · obtain ⟨bs, B', rfl, hl, hq, rfl⟩ := hI
    exact h bs B' hl hq
theorem held_ne {mv : List Mv} {q : List Nat × List Nat} : 0 < (heldL mv q).length := List.length_pos_of_mem (mem_held.mpr (List.mem_cons_self (a := q.2)))
theorem held_len {mv : List Mv} {q : List Nat × List Nat} : (heldL mv q).length ≤ 2 * mv.length + 1 := by
  unfold heldL sortL
  rw [(List.mergeSort_perm _ _).length_eq]
  have key : ∀ (xs acc : List (List Nat)), (xs.foldl (fun l x => if x ∈ l then l else x :: l) acc).length ≤ xs.length + acc.length := by
    intro xs
    induction xs with
    | nil => intro acc; simp
    | cons x xs ih =>
      intro acc
      rw [List.foldl_cons]
      refine Nat.le_trans (ih _) ?_
      split <;> simp <;> omega
  have h1 := key (q.2 :: mv.flatMap (mvS q.1)) []
  have h2 := flat_len (q := q.1) mv
  unfold dedL
  rw [List.length_cons, List.length_nil] at h1
  omega
def SpScene (C : Nat → List D → Sto → R D) : Prop := ∀ (B : Bg) (p : Pla) (top : Int) (S : Sto) (P : D → Sto → Prop) (X : Xc → Sto → Prop), PlaOk p → p.mv.length ≤ 31 → 0 ≤ top → top < 1000 → (∀ (s : Sc) (B' : Bg), ScOk p top.toNat s → P (dSc s) (B'.on S)) → Wr (scp 2 false (C 12) [.ref 1, dPla p, .int top] (B.on S)) P X
theorem scene_ok (hT : T 12 = some f__law_scene) {k : Nat} (ho : SpOf (run T G k)) (hw : SpWord (run T G k)) (hh : SpHeld (run T G k)) : SpScene (run T G (k + 1)) := fun B p top S P X ok hm t0 t1 h => by
  refine bag hT rfl (by show (closedD 2 (dPla p) && true) = true; rw [cl_Pla]; rfl) ?_
  show Wt (exs _ _ f__law_scene.body [some (.ref 1), some (dPla p), some (.int top), none, none, none] (B.on [])) _
  unfold f__law_scene
  have m5 := ok.m5
  have r7 := ok.r7
  rw [wt_cons]
  simp only [ev, evs, evo, evT, evto, evF, evQ, evI, ex, wr_bind, wr_ok, wr_exc, wt_o, wt_seq, wt_turn, wt_next, wt_brk, wt_cont, wt_ret, wt_exc, Pl.R.bind_ok, Pl.R.o_ok, Pl.R.bind_exc, Pl.R.o_exc, List.getElem?_cons_zero, List.getElem?_cons_succ, List.set_cons_zero, List.set_cons_succ, pl_ms, len_fro, List.length_map]
  rw [if_pos (by omega)]
  simp only [ev, evs, evo, evT, evto, evF, evQ, evI, ex, wr_bind, wr_ok, wr_exc, wt_o, wt_seq, wt_turn, wt_next, wt_brk, wt_cont, wt_ret, wt_exc, Pl.R.bind_ok, Pl.R.o_ok, Pl.R.bind_exc, Pl.R.o_exc, List.getElem?_cons_zero, List.getElem?_cons_succ, List.set_cons_zero, List.set_cons_succ]
  rw [if_pos (by rw [List.length_map, List.length_range]; show _ ≤ 100000; omega)]
  refine lc_draw (e := D.str) (Q := fun i w => ∀ q, p.ms[i]? = some q → w ∈ heldL p.mv q) (fun i d B hd => ?_) fun st B1 hl hq => ?_
  · rw [List.getElem?_map] at hd
    cases e : (List.range ((p.ms.length : Nat) : Int).toNat)[i]? with
    | none => rw [e] at hd; cases hd
    | some j =>
      rw [e] at hd
      cases hd
      obtain ⟨z1, z2⟩ := List.getElem?_eq_some_iff.mp e
      simp at z1 z2
      subst z2
      have hqi : p.ms[i]? = some p.ms[i] := List.getElem?_eq_getElem z1
      simp only [List.map_cons, List.map_nil, wipeD, bindTg, ev, evs, evo, evT, evto, evF, evQ, evI, ex, wr_bind, wr_ok, wr_exc, wt_o, wt_seq, wt_turn, wt_next, wt_brk, wt_cont, wt_ret, wt_exc, Pl.R.bind_ok, Pl.R.o_ok, Pl.R.bind_exc, Pl.R.o_exc, List.getElem?_cons_zero, List.getElem?_cons_succ, List.set_cons_zero, List.set_cons_succ, hh p i _ _ hqi hm]
      refine ho.map (as := heldL p.mv p.ms[i]) (e := D.str) held_ne (by have := held_len (mv := p.mv) (q := p.ms[i]); omega) (fun _ => rfl) fun w B' hw' => ?_
      refine ⟨w, B', rfl, fun q hq => ?_, rfl⟩
      rw [hqi] at hq
      cases hq
      exact hw'
  try simp only [ev, evs, evo, evT, evto, evF, evQ, evI, ex, wr_bind, wr_ok, wr_exc, wt_o, wt_seq, wt_turn, wt_next, wt_brk, wt_cont, wt_ret, wt_exc, Pl.R.bind_ok, Pl.R.o_ok, Pl.R.bind_exc, Pl.R.o_exc, List.getElem?_cons_zero, List.getElem?_cons_succ, List.set_cons_zero, List.set_cons_succ]
  rw [wt_cons]
  simp only [ev, evs, evo, evT, evto, evF, evQ, evI, ex, wr_bind, wr_ok, wr_exc, wt_o, wt_seq, wt_turn, wt_next, wt_brk, wt_cont, wt_ret, wt_exc, Pl.R.bind_ok, Pl.R.o_ok, Pl.R.bind_exc, Pl.R.o_exc, List.getElem?_cons_zero, List.getElem?_cons_succ, List.set_cons_zero, List.set_cons_succ, pl_rs, seqV]
  rw [if_pos (by rw [List.length_map]; show _ ≤ 100000; omega)]
  refine lc_draw (e := D.str) (Q := fun i w => (w.length : Int) ≤ top ∧ ∀ c ∈ w, c ∈ p.lt) (fun i d B hd => ?_) fun ws B2 hl2 hq2 => ?_
  · simp only [List.map_cons, List.map_nil, wipeD, bindTg, ev, evs, evo, evT, evto, evF, evQ, evI, ex, wr_bind, wr_ok, wr_exc, wt_o, wt_seq, wt_turn, wt_next, wt_brk, wt_cont, wt_ret, wt_exc, Pl.R.bind_ok, Pl.R.o_ok, Pl.R.bind_exc, Pl.R.o_exc, List.getElem?_cons_zero, List.getElem?_cons_succ, List.set_cons_zero, List.set_cons_succ, pl_lt]
    refine hw B p.lt top _ _ _ ok.l0 (by have := ok.l3; omega) t0 t1 fun w B' h1 h2 => ?_
    exact ⟨w, B', rfl, ⟨h1, h2⟩, rfl⟩
  try dsimp only
  rw [if_pos (by first | decide | (simp only [List.length_cons, List.length_nil]; decide))]
  refine ⟨B2, [], _, rfl, frz_cl (cl_Sc (s := ⟨st, ws⟩)), h ⟨st, ws⟩ B2 ⟨?_, fun i w q h1 h2 => hq i w h1 q h2, ?_, fun w hw' => ?_⟩⟩
  · show st.length = _
    rw [hl, List.length_map, List.length_range]
    omega
  · show ws.length = _
    rw [hl2, List.length_map]
  · obtain ⟨i, hi⟩ := List.getElem?_of_mem hw'
    have := hq2 i w hi
    exact ⟨by omega, this.2⟩
/-! ### one above another -/
def aboveB (a b : Sc) : Bool := decide (a.st = b.st) && (b.ws.zip a.ws).all fun x => x.1.isSublist x.2
/-- short, of letters -/
structure ScT (s : Sc) : Prop where
  st : ∀ w ∈ s.st, tOk w
  ws : ∀ w ∈ s.ws, w.length < 100000
  wl : s.ws.length ≤ 100000
theorem idx_sc0 {s : Sc} {S : Sto} : idxV (dSc s) (.int 0) S = .ok (.tup (s.st.map D.str)) S := rfl
theorem idx_sc1 {s : Sc} {S : Sto} : idxV (dSc s) (.int 1) S = .ok (.tup (s.ws.map D.str)) S := rfl
theorem tup_inj {a b : List (List Nat)} : (D.tup (a.map D.str) = D.tup (b.map D.str)) ↔ a = b := by
  constructor
  · intro h
    simp only [D.tup.injEq] at h
    have := congrArg strsD h
    rw [strsD_map, strsD_map] at this
    exact Option.some.inj this
  · rintro rfl; rfl
def SpAbove (C : Nat → List D → Sto → R D) : Prop := ∀ (a b : Sc) (S : Sto), ScT a → ScT b → scp 0 false (C 17) [dSc a, dSc b] S = .ok (.bl (aboveB a b)) S
theorem above_ok (hT : T 17 = some f_above) {k : Nat} (hw : SpWithin (run T G k)) : SpAbove (run T G (k + 1)) := fun a b S ha hb => by
  refine pur hT rfl (by show (closedD 0 (dSc a) && (closedD 0 (dSc b) && true)) = true; rw [cl_Sc, cl_Sc]; rfl) ?_ S
  show Wt (exs _ _ f_above.body [some (dSc a), some (dSc b), none, none] []) _
  unfold f_above
  have da : dv 2 (.tup (a.st.map D.str)) := dv_tmap fun w hw => ha.st w hw
  have db : dv 2 (.tup (b.st.map D.str)) := dv_tmap fun w hw => hb.st w hw
  rw [wt_cons]
  simp only [ev, evs, evo, evT, evto, evF, evQ, evI, ex, wr_bind, wr_ok, wr_exc, wt_o, wt_seq, wt_turn, wt_next, wt_brk, wt_cont, wt_ret, wt_exc, Pl.R.bind_ok, Pl.R.o_ok, Pl.R.bind_exc, Pl.R.o_exc, List.getElem?_cons_zero, List.getElem?_cons_succ, List.set_cons_zero, List.set_cons_succ, idx_sc0]
  by_cases e : a.st = b.st
  · rw [ne_no (tup_inj.mpr e) da (by decide)]
    simp only [ev, evs, evo, evT, evto, evF, evQ, evI, ex, wr_bind, wr_ok, wr_exc, wt_o, wt_seq, wt_turn, wt_next, wt_brk, wt_cont, wt_ret, wt_exc, Pl.R.bind_ok, Pl.R.o_ok, Pl.R.bind_exc, Pl.R.o_exc, List.getElem?_cons_zero, List.getElem?_cons_succ, List.set_cons_zero, List.set_cons_succ]
    rw [wt_nil]
    try dsimp only
    rw [wt_cons]
    simp only [ev, evs, evo, evT, evto, evF, evQ, evI, ex, wr_bind, wr_ok, wr_exc, wt_o, wt_seq, wt_turn, wt_next, wt_brk, wt_cont, wt_ret, wt_exc, Pl.R.bind_ok, Pl.R.o_ok, Pl.R.bind_exc, Pl.R.o_exc, List.getElem?_cons_zero, List.getElem?_cons_succ, List.set_cons_zero, List.set_cons_succ, idx_sc1, seqV]
    rw [grd_nil]
    simp only [ev, evs, evo, evT, evto, evF, evQ, evI, ex, wr_bind, wr_ok, wr_exc, wt_o, wt_seq, wt_turn, wt_next, wt_brk, wt_cont, wt_ret, wt_exc, Pl.R.bind_ok, Pl.R.o_ok, Pl.R.bind_exc, Pl.R.o_exc, List.getElem?_cons_zero, List.getElem?_cons_succ, List.set_cons_zero, List.set_cons_succ, if_true]
    have hz : ((b.ws.map D.str).zip (a.ws.map D.str)).map (fun xy => D.tup [xy.1, xy.2]) = (b.ws.zip a.ws).map fun x => D.tup [.str x.1, .str x.2] := by
      rw [List.zip_map, List.map_map]
      rfl
    rw [hz]
    rw [if_pos (by rw [List.length_map, List.length_zip]; have := ha.wl; show _ ≤ 100000; omega)]
    rw [lc_map (fun x => D.bl (x.1.isSublist x.2)) (b.ws.zip a.ws) (fun x hx => ?_)]
    · simp only [ev, evs, evo, evT, evto, evF, evQ, evI, ex, wr_bind, wr_ok, wr_exc, wt_o, wt_seq, wt_turn, wt_next, wt_brk, wt_cont, wt_ret, wt_exc, Pl.R.bind_ok, Pl.R.o_ok, Pl.R.bind_exc, Pl.R.o_exc, List.getElem?_cons_zero, List.getElem?_cons_succ, List.set_cons_zero, List.set_cons_succ, Bool.false_eq_true, if_false, bools_map]
      have : aboveB a b = (List.map (fun x : List Nat × List Nat => x.1.isSublist x.2) (b.ws.zip a.ws)).all id := by
        unfold aboveB
        rw [e, decide_eq_true rfl, Bool.true_and, List.all_map]
        rfl
      rw [this]
      exact frz_cl rfl
    · have h1 : x.1 ∈ b.ws := (List.of_mem_zip hx).1
      simp only [List.map_cons, List.map_nil, wipeD, bindTg, setAll, ev, evs, evo, evT, evto, evF, evQ, evI, ex, wr_bind, wr_ok, wr_exc, wt_o, wt_seq, wt_turn, wt_next, wt_brk, wt_cont, wt_ret, wt_exc, Pl.R.bind_ok, Pl.R.o_ok, Pl.R.bind_exc, Pl.R.o_exc, List.getElem?_cons_zero, List.getElem?_cons_succ, List.set_cons_zero, List.set_cons_succ, hw x.1 x.2 _ (hb.ws _ h1)]
  · rw [ne_yes (fun z => e (tup_inj.mp z)) da db (by decide)]
    simp only [ev, evs, evo, evT, evto, evF, evQ, evI, ex, wr_bind, wr_ok, wr_exc, wt_o, wt_seq, wt_turn, wt_next, wt_brk, wt_cont, wt_ret, wt_exc, Pl.R.bind_ok, Pl.R.o_ok, Pl.R.bind_exc, Pl.R.o_exc, List.getElem?_cons_zero, List.getElem?_cons_succ, List.set_cons_zero, List.set_cons_succ]
    rw [wt_cons]
    simp only [ev, evs, evo, evT, evto, evF, evQ, evI, ex, wr_bind, wr_ok, wr_exc, wt_o, wt_seq, wt_turn, wt_next, wt_brk, wt_cont, wt_ret, wt_exc, Pl.R.bind_ok, Pl.R.o_ok, Pl.R.bind_exc, Pl.R.o_exc, List.getElem?_cons_zero, List.getElem?_cons_succ, List.set_cons_zero, List.set_cons_succ]
    have : aboveB a b = false := by unfold aboveB; rw [decide_eq_false e, Bool.false_and]
    rw [this]
    exact frz_cl rfl
theorem held_nam {p : Pla} (ok : PlaOk p) {i : Nat} {q : List Nat × List Nat} (hq : p.ms[i]? = some q) {w : List Nat} (hw : w ∈ heldL p.mv q) : Nam w := by
  have hi : i < p.sd.length := by rw [ok.ml]; exact (List.getElem?_eq_some_iff.mp hq).1
  have hs : p.sd[i]? = some p.sd[i] := List.getElem?_eq_getElem hi
  rcases List.mem_cons.mp (mem_held.mp hw) with rfl | h
  · exact (ok.sN _ (List.mem_of_getElem? hs)).2.2.2 _ (ok.sF i q _ hq hs)
  · obtain ⟨v, hv, hm⟩ := List.mem_flatMap.mp h
    unfold mvS at hm
    split at hm
    · obtain ⟨j, q', st, _, h2, _, h4, h5⟩ := (ok.vk v hv).m
      have := (ok.sN st (List.mem_of_getElem? h2)).2.2.2
      simp only [List.mem_cons, List.not_mem_nil, or_false] at hm
      rcases hm with rfl | rfl
      · exact this _ h4
      · exact this _ h5
    · cases hm
theorem ScOk.nam {p : Pla} {n : Nat} {s : Sc} (ok : PlaOk p) (h : ScOk p n s) : ∀ w ∈ s.st, Nam w := fun w hw => by
  obtain ⟨i, hi⟩ := List.getElem?_of_mem hw
  have hl : i < p.ms.length := by rw [← h.sl]; exact (List.getElem?_eq_some_iff.mp hi).1
  have hq : p.ms[i]? = some p.ms[i] := List.getElem?_eq_getElem hl
  exact held_nam ok hq (h.sh i w _ hi hq)
theorem ScOk.t {p : Pla} {n : Nat} {s : Sc} (ok : PlaOk p) (h : ScOk p n s) (hn : n < 100000) : ScT s :=
  ⟨fun w hw => (h.nam ok w hw).2.2.tOk, fun w hw => Nat.lt_of_le_of_lt (h.wk w hw).1 hn, by rw [h.wl]; have := ok.r7; omega⟩
end
end Pl

set_option maxHeartbeats 4000000
/-! The bag is made; lists that stand, compared to nothing. -/
namespace Pl
open PySem L2
section
variable {T : Tab} {G : Nat → Option D} {C : Nat → List D → Sto → R D}
def SpBag (C : Nat → List D → Sto → R D) : Prop := ∀ (ns : List Int) (P : D → Sto → Prop) (X : Xc → Sto → Prop), (∀ B : Bg, P (.ref 1) (B.on [])) → Wr (C 13 [.scr (ns.map D.int)] []) P X
theorem bag_ok (hT : T 13 = some f__law_bag) (k : Nat) : SpBag (run T G (k + 1)) := fun ns P X h => by
  rw [wr_run hT rfl]
  show Wt (exs _ _ f__law_bag.body [some (.scr (ns.map D.int)), none, none] []) _
  unfold f__law_bag
  rw [wt_cons]
  simp only [ev, evs, evo, evT, evto, evF, evQ, evI, ex, wr_bind, wr_ok, wr_exc, wt_o, wt_seq, wt_turn, wt_next, wt_brk, wt_cont, wt_ret, wt_exc, Pl.R.bind_ok, Pl.R.o_ok, Pl.R.bind_exc, Pl.R.o_exc, List.getElem?_cons_zero, List.getElem?_cons_succ, List.set_cons_zero, List.set_cons_succ]
  rw [wt_cons]
  simp only [ev, evs, evo, evT, evto, evF, evQ, evI, ex, wr_bind, wr_ok, wr_exc, wt_o, wt_seq, wt_turn, wt_next, wt_brk, wt_cont, wt_ret, wt_exc, Pl.R.bind_ok, Pl.R.o_ok, Pl.R.bind_exc, Pl.R.o_exc, List.getElem?_cons_zero, List.getElem?_cons_succ, List.set_cons_zero, List.set_cons_succ, seqV, Bool.false_eq_true, if_false]
  refine for_fro (fun _ ρ S => S = [] ∧ ∃ (i : Int) (x : Option D), ρ = [some (.scr (ns.map D.int)), some (.int i), x]) ⟨rfl, 41, none, rfl⟩ (fun i d ρ S hd hI => ?_) (fun ρ S hI => ?_)
  · obtain ⟨rfl, j, x, rfl⟩ := hI
    rw [cut_ints, List.getElem?_map] at hd
    cases e : (cutL ns none (some 63))[i]? with
    | none => rw [e] at hd; cases hd
    | some n =>
      rw [e] at hd
      cases hd
      refine ⟨_, rfl, ?_⟩
      show Wt (exs _ _ _ [some (.scr (ns.map D.int)), some (.int j), some (.int n)] []) _
      rw [wt_cons]
      simp (disch := omega) only [ev, evs, evo, evT, evto, evF, evQ, evI, ex, wr_bind, wr_ok, wr_exc, wt_o, wt_seq, wt_turn, wt_next, wt_brk, wt_cont, wt_ret, wt_exc, Pl.R.bind_ok, Pl.R.o_ok, Pl.R.bind_exc, Pl.R.o_exc, List.getElem?_cons_zero, List.getElem?_cons_succ, List.set_cons_zero, List.set_cons_succ, v_mul, v_add, v_mod]
      rw [wt_nil]
      exact ⟨rfl, _, _, rfl⟩
  · obtain ⟨rfl, j, x, rfl⟩ := hI
    dsimp only
    rw [wt_cons]
    simp only [ev, evs, evo, evT, evto, evF, evQ, evI, ex, wr_bind, wr_ok, wr_exc, wt_o, wt_seq, wt_turn, wt_next, wt_brk, wt_cont, wt_ret, wt_exc, Pl.R.bind_ok, Pl.R.o_ok, Pl.R.bind_exc, Pl.R.o_exc, List.getElem?_cons_zero, List.getElem?_cons_succ, List.set_cons_zero, List.set_cons_succ, seqV, Bool.false_eq_true, if_false]
    rw [if_pos (by show 5 ≤ 100000; decide)]
    simp only [ev, evs, evo, evT, evto, evF, evQ, evI, ex, wr_bind, wr_ok, wr_exc, wt_o, wt_seq, wt_turn, wt_next, wt_brk, wt_cont, wt_ret, wt_exc, Pl.R.bind_ok, Pl.R.o_ok, Pl.R.bind_exc, Pl.R.o_exc, List.getElem?_cons_zero, List.getElem?_cons_succ, List.set_cons_zero, List.set_cons_succ, cut_ints]
    exact h ⟨cutL ns none (some 63), 0, 0, j, 0, by decide⟩
theorem eqV_hd {neg : Bool} {n : Nat} {ds : List D} {S : Sto} (hs : S[n]? = some (.lst ds)) (hd : ∀ x ∈ ds, dv 5 x) : eqV neg (.ref n) (.fro []) S = .ok (.bl (ds.isEmpty ^^ neg)) S := by
  unfold eqV
  obtain ⟨ps, h1, h2, h3⟩ := dvs_pd (g := pdN S 3) (dv_pd 5) ds hd
  have e1 : pd S (.ref n) = some (.list ps) := by
    show pdN S 4 n = _
    unfold pdN
    rw [hs]
    show (pdRs (pdN S 3) ds).map PyData.list = _
    rw [h1]
    rfl
  have e2 : pd S (.fro []) = some (.list []) := rfl
  have s1 : SeqAt.shaped (.list ps) = true := by
    unfold SeqAt.shaped
    rw [show PyData.canLay0 (.list ps) = PyData.canLayAll0 ps by simp only [PyData.canLay0], h2, Bool.true_and, decide_eq_true_eq]
    simp only [PyData.depth]
    omega
  have s2 : SeqAt.shaped (.list []) = true := by decide
  show (match pd S (.ref n), pd S (.fro []) with | some x, some y => _ | _, _ => _) = _
  rw [e1, e2]
  show (if (SeqAt.shaped (.list ps) && SeqAt.shaped (.list [])) = true then _ else _) = _
  rw [if_pos (by rw [s1, s2] <;> rfl)]
  cases ds with
  | nil => cases h1; rfl
  | cons d r =>
    simp only [pdRs] at h1
    split at h1
    · cases h1; rfl
    · cases h1
theorem eq_hd {n : Nat} {ds : List D} {S : Sto} (hs : S[n]? = some (.lst ds)) (hd : ∀ x ∈ ds, dv 5 x) : cmpV .eq (.ref n) (.fro []) S = .ok (.bl ds.isEmpty) S := by
  have := eqV_hd (neg := false) hs hd
  rw [Bool.xor_false] at this
  exact this
theorem ne_hd {n : Nat} {ds : List D} {S : Sto} (hs : S[n]? = some (.lst ds)) (hd : ∀ x ∈ ds, dv 5 x) : cmpV .ne (.ref n) (.fro []) S = .ok (.bl (!ds.isEmpty)) S := by
  have := eqV_hd (neg := true) hs hd
  rw [Bool.xor_true] at this
  exact this
theorem dv_one {c : Nat} (h : c < 0x110000) : dv 5 (one c) := fun x hx => by
  have : x = c := by simpa using hx
  rw [this]; exact h
theorem lst_pop0 {n : Nat} {d : D} {ds : List D} {S : Sto} (hs : S[n]? = some (.lst (d :: ds))) : lmV .popAt n [.int 0] S = .ok d (S.set n (.lst ds)) := by
  unfold lmV
  have h : seqIndex? 0 (d :: ds).length = some 0 := by simp [seqIndex?]
  simp only [hs, h]
  rw [if_pos (by decide)]
  rfl
end
end Pl

set_option maxHeartbeats 4000000
/-! Products: atoms, what lies within them. -/
namespace Pl
open PySem L2
/-- is_letters: text at -/
def f_is_letters : Fn := ⟨1, 2, [
  .ret (.and_ (.calls 0 false 21 [(.var 0)]) (.all_ (.fr (.lc [("at", 1)] [1] false (.rng (.bin .sub (.len (.var 0)) (.cst (.int 1)))) none (.cmp .lt (.idx (.var 0) (.var 1)) (.idx (.var 0) (.bin .add (.var 1) (.cst (.int 1)))))))))]⟩
/-- is_product: thing letters many -/
def f_is_product : Fn := ⟨1, 3, [
  .ret (.all_ (.fr (.lc [("letters", 1), ("many", 2)] [1, 2] true (.sq (.ex (.var 0))) none (.and_ (.cmp .ne (.var 1) (.cst (.str []))) (.and_ (.calls 0 false 126 [(.var 1)]) (.or_ (.var 2) (.cmp .eq (.len (.var 1)) (.cst (.int 1)))))))))]⟩
/-- need_product: thing -/
def f_need_product : Fn := ⟨1, 1, [
  .if_ (.not_ (.ex (.calls 0 false 127 [(.var 0)]))) [.no] []]⟩
/-- has_all: letters others letter -/
def f_has_all : Fn := ⟨2, 3, [
  .ret (.all_ (.fr (.lc [("letter", 2)] [2] false (.str (.var 0)) none (.cmp .isin (.var 2) (.var 1)))))]⟩
/-- found_by: product at letters many spot -/
def f_found_by : Fn := ⟨4, 5, [
  .for_ [4] false (.rng2 (.var 1) (.len (.var 0))) [.if_ (.and_ (.ex (.calls 0 false 106 [(.var 2), (.idx (.idx (.var 0) (.var 4)) (.cst (.int 0)))])) (.or_ (.ex (.idx (.idx (.var 0) (.var 4)) (.cst (.int 1)))) (.not_ (.ex (.var 3))))) [.ret (.var 4)] []],
  .ret (.cst .non)]⟩
/-- lies_in: one other at letters many spot -/
def f_lies_in : Fn := ⟨2, 6, [
  .asg 2 (.cst (.int 0)),
  .for_ [3, 4] true (.sq (.ex (.var 0))) [.asg 5 (.calls 0 false 107 [(.var 1), (.var 2), (.var 3), (.var 4)]), .if_ (.cmp .isN (.var 5) (.cst .non)) [.ret (.cst (.bl false))] [], .asg 2 (.ifx (.ex (.idx (.idx (.var 1) (.var 5)) (.cst (.int 1)))) (.var 5) (.bin .add (.var 5) (.cst (.int 1))))],
  .ret (.cst (.bl true))]⟩
/-- holds: product word letter -/
def f_holds : Fn := ⟨2, 3, [
  .expr (.calls 0 false 128 [(.var 0)]),
  .if_ (.not_ (.ex (.calls 0 false 21 [(.var 1)]))) [.no] [],
  .ret (.calls 0 false 108 [(.tupq (.fr (.lc [("letter", 2)] [2] false (.str (.var 1)) none (.tup [(.var 2), (.cst (.bl false))])))), (.var 0)])]⟩
/-- letters_of: word letter -/
def f_letters_of : Fn := ⟨1, 2, [
  .ret (.tupq (.fr (.lc [("letter", 1)] [1] false (.str (.var 0)) none (.tup [(.var 1), (.cst (.bl false))]))))]⟩
/-- product_of: word -/
def f_product_of : Fn := ⟨1, 1, [
  .if_ (.not_ (.ex (.calls 0 false 21 [(.var 0)]))) [.no] [],
  .ret (.calls 0 false 109 [(.var 0)])]⟩
/-- _law_product: _law_bag_here _law_letters_here _law_top _law_found _law_k _law_some _law_many _law_letter -/
def f__law_product : Fn := ⟨3, 8, [
  .asg 3 (.new (.lst [])),
  .for_ [4] false (.rng (.calls 2 false 2 [(.var 0), (.bin .add (.var 2) (.cst (.int 1)))])) [.asg 5 (.join (.cst (.str [])) (.fr (.lc [("_law_letter", 7)] [7] false (.sq (.fr (.sortT (.ex (.var 1))))) (some (.cmp .eq (.calls 2 false 2 [(.var 0), (.cst (.int 2))]) (.cst (.int 0)))) (.var 7)))), .asg 6 (.and_ (.cmp .ne (.var 5) (.cst (.str []))) (.cmp .gt (.calls 2 false 2 [(.var 0), (.cst (.int 3))]) (.cst (.int 0)))), .expr (.app (.var 3) (.ifx (.ex (.var 6)) (.tup [(.var 5), (.cst (.bl true))]) (.tup [(.calls 2 false 4 [(.var 0), (.var 1)]), (.cst (.bl false))])))],
  .ret (.tupq (.ex (.var 3)))]⟩
/-- _law_holds: _law_product_here _law_word_here _law_first _law_sign _law_places _law_at -/
def f__law_holds : Fn := ⟨2, 6, [
  .asg 2 (.cst (.int 0)),
  .for_ [3] false (.str (.var 1)) [.asg 4 (.frn (.lc [("_law_at", 5)] [5] false (.rng2 (.var 2) (.len (.var 0))) (some (.cmp .isin (.var 3) (.idx (.idx (.var 0) (.var 5)) (.cst (.int 0))))) (.var 5))), .if_ (.cmp .eq (.var 4) (.frn (.lst []))) [.ret (.cst (.bl false))] [], .asg 2 (.agg .mn (.fr (.lc [("_law_at", 5)] [5] false (.sq (.ex (.var 4))) none (.bin .sub (.bin .add (.var 5) (.cst (.int 1))) (.intb (.idx (.idx (.var 0) (.var 5)) (.cst (.int 1))))))))],
  .ret (.cst (.bl true))]⟩
/-- _law_six: _law_bag_here _law_alphabet _law_start _law_by _law_k -/
def f__law_six : Fn := ⟨1, 5, [
  .asg 1 (.cst (.str alph)),
  .asgT [2, 3] (.tup [(.calls 2 false 2 [(.var 0), (.cst (.int 26))]), (.idx (.frn (.lst [(.cst (.int 1)), (.cst (.int 3)), (.cst (.int 5)), (.cst (.int 7))])) (.calls 2 false 2 [(.var 0), (.cst (.int 4))]))]),
  .ret (.frn (.lc [("_law_k", 4)] [4] false (.rng (.cst (.int 6))) none (.idx (.var 1) (.bin .mod (.bin .add (.var 2) (.bin .mul (.var 3) (.var 4))) (.cst (.int 26))))))]⟩
/-- _law_within: _law_small _law_great _law_left _law_letter -/
def f__law_within : Fn := ⟨2, 4, [
  .asg 2 (.new (.chars (.var 0))),
  .for_ [3] false (.str (.var 1)) [.if_ (.and_ (.cmp .ne (.var 2) (.frn (.lst []))) (.cmp .eq (.idx (.var 2) (.cst (.int 0))) (.var 3))) [.expr (.lm .popAt (.var 2) [(.cst (.int 0))])] []],
  .ret (.cmp .eq (.var 2) (.frn (.lst [])))]⟩

section
variable {T : Tab} {G : Nat → Option D} {C : Nat → List D → Sto → R D}
abbrev At := List Nat × Bool
def dAt (a : At) : D := .tup [.str a.1, .bl a.2]
def dP (p : List At) : D := .tup (p.map dAt)
theorem cl_At (a : At) : closedD 0 (dAt a) = true := rfl
theorem cl_P (p : List At) : closedD 0 (dP p) = true := closedL_map cl_At
theorem in_one {c : Nat} {y : List Nat} {S : Sto} : cmpV .isin (.str [c]) (.str y) S = .ok (.bl (decide (c ∈ y))) S := by
  show R.ok (D.bl ((!(Builtin.Str.occurrences ⟨y.toArray⟩ ⟨[c].toArray⟩ 0 y.length 1).isEmpty) ^^ false)) S = _
  have := StrLaws.found_one ⟨y.toArray⟩ c
  rw [Bool.xor_false]
  exact congrArg (fun b => R.ok (D.bl b) S) this
structure AtOk (a : At) : Prop where
  ne : a.1 ≠ []
  up : a.1.Pairwise (· < ·)
  lt : Lett a.1
  one : a.2 = false → a.1.length = 1
  len : a.1.length ≤ 100
structure PrOk (p : List At) : Prop where
  len : p.length ≤ 1000
  ok : ∀ a ∈ p, AtOk a
theorem at_0 {w : List Nat} {m : Bool} {S : Sto} : idxV (dAt (w, m)) (.int 0) S = .ok (.str w) S := rfl
theorem at_1 {w : List Nat} {m : Bool} {S : Sto} : idxV (dAt (w, m)) (.int 1) S = .ok (.bl m) S := rfl
/-! ### words, letters -/
def SpIsWord (C : Nat → List D → Sto → R D) : Prop := ∀ (w : List Nat) (S : Sto), w.length ≤ 100000 → scp 0 false (C 21) [.str w] S = .ok (.bl (lettB w)) S
theorem all_id {α : Type} {f : α → Bool} {w : List α} : (w.map f).all id = w.all f := by rw [List.all_map]; rfl
theorem isword_ok (hT : T 21 = some f_is_word) (hG : G 19 = some (.str alph)) (k : Nat) : SpIsWord (run T G (k + 1)) := fun w S hw => by
  refine pur hT rfl rfl ?_ S
  show Wt (exs _ _ f_is_word.body [some (.str w), none] []) _
  unfold f_is_word
  rw [wt_cons]
  simp only [ev, evs, evo, evT, evto, evF, evQ, evI, ex, wr_bind, wr_ok, wr_exc, wt_o, wt_seq, wt_turn, wt_next, wt_brk, wt_cont, wt_ret, wt_exc, Pl.R.bind_ok, Pl.R.o_ok, Pl.R.bind_exc, Pl.R.o_exc, List.getElem?_cons_zero, List.getElem?_cons_succ, List.set_cons_zero, List.set_cons_succ]
  rw [if_pos (by rw [List.length_map]; exact hw)]
  rw [lc_map (e := fun c : Nat => D.str [c]) (fun c => D.bl (decide (c ∈ alph))) w (fun c hc => ?_)]
  · simp only [ev, evs, evo, evT, evto, evF, evQ, evI, ex, wr_bind, wr_ok, wr_exc, wt_o, wt_seq, wt_turn, wt_next, wt_brk, wt_cont, wt_ret, wt_exc, Pl.R.bind_ok, Pl.R.o_ok, Pl.R.bind_exc, Pl.R.o_exc, List.getElem?_cons_zero, List.getElem?_cons_succ, List.set_cons_zero, List.set_cons_succ, Bool.false_eq_true, if_false, bools_map, all_id]
    exact frz_cl rfl
  · simp only [List.map_cons, List.map_nil, wipeD, bindTg, ev, evs, evo, evT, evto, evF, evQ, evI, ex, wr_bind, wr_ok, wr_exc, wt_o, wt_seq, wt_turn, wt_next, wt_brk, wt_cont, wt_ret, wt_exc, Pl.R.bind_ok, Pl.R.o_ok, Pl.R.bind_exc, Pl.R.o_exc, List.getElem?_cons_zero, List.getElem?_cons_succ, List.set_cons_zero, List.set_cons_succ, hG, in_alph]
theorem Lett.lettB {w : List Nat} (h : Lett w) : lettB w = true := by
  unfold Pl.lettB
  rw [List.all_eq_true]
  exact fun c hc => decide_eq_true (h c hc)
def upB : List Nat → Bool
  | a :: b :: r => decide (a < b) && upB (b :: r)
  | _ => true
def SpHasAll (C : Nat → List D → Sto → R D) : Prop := ∀ (a b : List Nat) (S : Sto), a.length ≤ 100000 → scp 0 false (C 106) [.str a, .str b] S = .ok (.bl (a.all fun c => decide (c ∈ b))) S
theorem hasall_ok (hT : T 106 = some f_has_all) (k : Nat) : SpHasAll (run T G (k + 1)) := fun a b S hw => by
  refine pur hT rfl rfl ?_ S
  show Wt (exs _ _ f_has_all.body [some (.str a), some (.str b), none] []) _
  unfold f_has_all
  rw [wt_cons]
  simp only [ev, evs, evo, evT, evto, evF, evQ, evI, ex, wr_bind, wr_ok, wr_exc, wt_o, wt_seq, wt_turn, wt_next, wt_brk, wt_cont, wt_ret, wt_exc, Pl.R.bind_ok, Pl.R.o_ok, Pl.R.bind_exc, Pl.R.o_exc, List.getElem?_cons_zero, List.getElem?_cons_succ, List.set_cons_zero, List.set_cons_succ]
  rw [if_pos (by rw [List.length_map]; exact hw)]
  rw [lc_map (e := fun c : Nat => D.str [c]) (fun c => D.bl (decide (c ∈ b))) a (fun c hc => ?_)]
  · simp only [ev, evs, evo, evT, evto, evF, evQ, evI, ex, wr_bind, wr_ok, wr_exc, wt_o, wt_seq, wt_turn, wt_next, wt_brk, wt_cont, wt_ret, wt_exc, Pl.R.bind_ok, Pl.R.o_ok, Pl.R.bind_exc, Pl.R.o_exc, List.getElem?_cons_zero, List.getElem?_cons_succ, List.set_cons_zero, List.set_cons_succ, Bool.false_eq_true, if_false, bools_map, all_id]
    exact frz_cl rfl
  · simp only [List.map_cons, List.map_nil, wipeD, bindTg, ev, evs, evo, evT, evto, evF, evQ, evI, ex, wr_bind, wr_ok, wr_exc, wt_o, wt_seq, wt_turn, wt_next, wt_brk, wt_cont, wt_ret, wt_exc, Pl.R.bind_ok, Pl.R.o_ok, Pl.R.bind_exc, Pl.R.o_exc, List.getElem?_cons_zero, List.getElem?_cons_succ, List.set_cons_zero, List.set_cons_succ, in_one]
/-- letters that rise -/
def SpIsLetters (C : Nat → List D → Sto → R D) : Prop := ∀ (w : List Nat) (S : Sto), w.length ≤ 1000 → Lett w → w.Pairwise (· < ·) → scp 0 false (C 126) [.str w] S = .ok (.bl true) S
theorem lt_one {a b : Nat} {S : Sto} : cmpV .lt (.str [a]) (.str [b]) S = .ok (.bl (decide (a < b))) S := by
  show R.ok (D.bl (decide ([a] < [b]))) S = _
  congr 2
  rw [decide_eq_decide, List.cons_lt_cons_iff]
  simp
theorem isletters_ok (hT : T 126 = some f_is_letters) {k : Nat} (hW : SpIsWord (run T G k)) : SpIsLetters (run T G (k + 1)) := fun w S hw hl hu => by
  refine pur hT rfl rfl ?_ S
  show Wt (exs _ _ f_is_letters.body [some (.str w), none] []) _
  unfold f_is_letters
  rw [wt_cons]
  have hwl : w.length ≤ lim := by show w.length ≤ 100000; omega
  simp only [ev, evs, evo, evT, evto, evF, evQ, evI, ex, wr_bind, wr_ok, wr_exc, wt_o, wt_seq, wt_turn, wt_next, wt_brk, wt_cont, wt_ret, wt_exc, Pl.R.bind_ok, Pl.R.o_ok, Pl.R.bind_exc, Pl.R.o_exc, List.getElem?_cons_zero, List.getElem?_cons_succ, List.set_cons_zero, List.set_cons_succ, hW w [] (by omega), hl.lettB, truV, len_str hwl, v_sub]
  rw [if_pos (by omega)]
  simp only [ev, evs, evo, evT, evto, evF, evQ, evI, ex, wr_bind, wr_ok, wr_exc, wt_o, wt_seq, wt_turn, wt_next, wt_brk, wt_cont, wt_ret, wt_exc, Pl.R.bind_ok, Pl.R.o_ok, Pl.R.bind_exc, Pl.R.o_exc, List.getElem?_cons_zero, List.getElem?_cons_succ, List.set_cons_zero, List.set_cons_succ]
  rw [if_pos (by rw [List.length_map, List.length_range]; show _ ≤ 100000; omega)]
  rw [lc_map (e := fun k : Nat => D.int (k : Int)) (fun _ => D.bl true) _ (fun j hj => ?_)]
  · simp only [ev, evs, evo, evT, evto, evF, evQ, evI, ex, wr_bind, wr_ok, wr_exc, wt_o, wt_seq, wt_turn, wt_next, wt_brk, wt_cont, wt_ret, wt_exc, Pl.R.bind_ok, Pl.R.o_ok, Pl.R.bind_exc, Pl.R.o_exc, List.getElem?_cons_zero, List.getElem?_cons_succ, List.set_cons_zero, List.set_cons_succ, Bool.false_eq_true, if_false, bools_map, all_id]
    rw [List.all_eq_true.mpr fun _ _ => rfl]
    exact frz_cl rfl
  · have hj2 := List.mem_range.mp hj
    have j1 : j < w.length := by omega
    have j2 : j + 1 < w.length := by omega
    have g1 : ∀ S, idxV (.str w) (.int (j : Int)) S = .ok (.str [w[j]]) S := fun S => idx_str hwl (List.getElem?_eq_getElem j1)
    have g2 : ∀ S, idxV (.str w) (.int ((j : Int) + 1)) S = .ok (.str [w[j + 1]]) S := fun S => by rw [show ((j : Int) + 1) = ((j + 1 : Nat) : Int) by omega]; exact idx_str hwl (List.getElem?_eq_getElem j2)
    simp only [List.map_cons, List.map_nil, wipeD, bindTg, ev, evs, evo, evT, evto, evF, evQ, evI, ex, wr_bind, wr_ok, wr_exc, wt_o, wt_seq, wt_turn, wt_next, wt_brk, wt_cont, wt_ret, wt_exc, Pl.R.bind_ok, Pl.R.o_ok, Pl.R.bind_exc, Pl.R.o_exc, List.getElem?_cons_zero, List.getElem?_cons_succ, List.set_cons_zero, List.set_cons_succ, v_add, g1, g2, lt_one]
    rw [decide_eq_true (List.pairwise_iff_getElem.mp hu j (j + 1) j1 j2 (by omega))]
def SpIsProd (C : Nat → List D → Sto → R D) : Prop := ∀ (p : List At) (S : Sto), PrOk p → scp 0 false (C 127) [dP p] S = .ok (.bl true) S
theorem dv_str {w : List Nat} (h : Lett w) : dv 5 (.str w) := h.tOk
theorem isprod_ok (hT : T 127 = some f_is_product) {k : Nat} (hL : SpIsLetters (run T G k)) : SpIsProd (run T G (k + 1)) := fun p S hp => by
  refine pur hT rfl (by show (closedD 0 (dP p) && true) = true; rw [cl_P]; rfl) ?_ S
  show Wt (exs _ _ f_is_product.body [some (.tup (p.map dAt)), none, none] []) _
  unfold f_is_product
  rw [wt_cons]
  simp only [ev, evs, evo, evT, evto, evF, evQ, evI, ex, wr_bind, wr_ok, wr_exc, wt_o, wt_seq, wt_turn, wt_next, wt_brk, wt_cont, wt_ret, wt_exc, Pl.R.bind_ok, Pl.R.o_ok, Pl.R.bind_exc, Pl.R.o_exc, List.getElem?_cons_zero, List.getElem?_cons_succ, List.set_cons_zero, List.set_cons_succ, seqV]
  have hpl := hp.len
  rw [if_pos (by rw [List.length_map]; show _ ≤ 100000; omega)]
  rw [lc_map (e := dAt) (fun _ => D.bl true) p (fun a ha => ?_)]
  · simp only [ev, evs, evo, evT, evto, evF, evQ, evI, ex, wr_bind, wr_ok, wr_exc, wt_o, wt_seq, wt_turn, wt_next, wt_brk, wt_cont, wt_ret, wt_exc, Pl.R.bind_ok, Pl.R.o_ok, Pl.R.bind_exc, Pl.R.o_exc, List.getElem?_cons_zero, List.getElem?_cons_succ, List.set_cons_zero, List.set_cons_succ, Bool.false_eq_true, if_false, bools_map, all_id]
    rw [List.all_eq_true.mpr fun _ _ => rfl]
    exact frz_cl rfl
  · have ha := hp.ok a ha
    obtain ⟨w, m⟩ := a
    have hwl : w.length ≤ lim := by have := ha.len; show w.length ≤ 100000; simp only at this; omega
    simp only [List.map_cons, List.map_nil, wipeD, bindTg, setAll, dAt, ev, evs, evo, evT, evto, evF, evQ, evI, ex, wr_bind, wr_ok, wr_exc, wt_o, wt_seq, wt_turn, wt_next, wt_brk, wt_cont, wt_ret, wt_exc, Pl.R.bind_ok, Pl.R.o_ok, Pl.R.bind_exc, Pl.R.o_exc, List.getElem?_cons_zero, List.getElem?_cons_succ, List.set_cons_zero, List.set_cons_succ]
    rw [ne_yes (a := .str w) (b := .str []) (by have := ha.ne; intro e; exact this (by simpa using e)) (dv_str ha.lt) (show dv 5 (.str []) from fun c hc => nomatch hc) (by decide)]
    simp only [ev, evs, evo, evT, evto, evF, evQ, evI, ex, wr_bind, wr_ok, wr_exc, wt_o, wt_seq, wt_turn, wt_next, wt_brk, wt_cont, wt_ret, wt_exc, Pl.R.bind_ok, Pl.R.o_ok, Pl.R.bind_exc, Pl.R.o_exc, List.getElem?_cons_zero, List.getElem?_cons_succ, List.set_cons_zero, List.set_cons_succ, truV]
    rw [hL w [] (by have := ha.len; simp only at this; omega) ha.lt ha.up]
    simp only [ev, evs, evo, evT, evto, evF, evQ, evI, ex, wr_bind, wr_ok, wr_exc, wt_o, wt_seq, wt_turn, wt_next, wt_brk, wt_cont, wt_ret, wt_exc, Pl.R.bind_ok, Pl.R.o_ok, Pl.R.bind_exc, Pl.R.o_exc, List.getElem?_cons_zero, List.getElem?_cons_succ, List.set_cons_zero, List.set_cons_succ, truV]
    cases m with
    | true => rfl
    | false =>
      simp only [ev, evs, evo, evT, evto, evF, evQ, evI, ex, wr_bind, wr_ok, wr_exc, wt_o, wt_seq, wt_turn, wt_next, wt_brk, wt_cont, wt_ret, wt_exc, Pl.R.bind_ok, Pl.R.o_ok, Pl.R.bind_exc, Pl.R.o_exc, List.getElem?_cons_zero, List.getElem?_cons_succ, List.set_cons_zero, List.set_cons_succ, len_str hwl, c_eqi]
      rw [show ((w.length : Int)) = 1 by have := ha.one rfl; simp only at this; omega]
      rfl
def SpNeedProd (C : Nat → List D → Sto → R D) : Prop := ∀ (p : List At) (S : Sto), PrOk p → scp 0 false (C 128) [dP p] S = .ok .non S
theorem needprod_ok (hT : T 128 = some f_need_product) {k : Nat} (hI : SpIsProd (run T G k)) : SpNeedProd (run T G (k + 1)) := fun p S hp => by
  refine pur hT rfl (by show (closedD 0 (dP p) && true) = true; rw [cl_P]; rfl) ?_ S
  show Wt (exs _ _ f_need_product.body [some (dP p)] []) _
  unfold f_need_product
  rw [wt_cons]
  simp only [ev, evs, evo, evT, evto, evF, evQ, evI, ex, wr_bind, wr_ok, wr_exc, wt_o, wt_seq, wt_turn, wt_next, wt_brk, wt_cont, wt_ret, wt_exc, Pl.R.bind_ok, Pl.R.o_ok, Pl.R.bind_exc, Pl.R.o_exc, List.getElem?_cons_zero, List.getElem?_cons_succ, List.set_cons_zero, List.set_cons_succ, hI p [] hp, truV, Bool.not_true]
  rw [wt_nil]
  exact frz_cl rfl
/-! ### lying within -/
def fits (w : List Nat) (m : Bool) (a : At) : Bool := (w.all fun c => decide (c ∈ a.1)) && (a.2 || !m)
def seek (w : List Nat) (m : Bool) (q : List At) : List At := q.dropWhile fun a => !fits w m a
def lies : List At → List At → Bool
  | [], _ => true
  | a :: one, q => match seek a.1 a.2 q with
    | [] => false
    | b :: r => lies one (if b.2 then b :: r else r)
def fndD (p : List At) (n : Nat) (w : List Nat) (m : Bool) : D := match seek w m (p.drop n) with
  | [] => .non
  | b :: r => .int ((p.length - (r.length + 1) : Nat) : Int)
def SpFound (C : Nat → List D → Sto → R D) : Prop := ∀ (p : List At) (n : Nat) (w : List Nat) (m : Bool) (S : Sto), p.length ≤ 10000 → n ≤ p.length → w.length ≤ 100000 → scp 0 false (C 107) [dP p, .int (n : Int), .str w, .bl m] S = .ok (fndD p n w m) S
theorem seek_cons {w : List Nat} {m : Bool} {a : At} {q : List At} : seek w m (a :: q) = if fits w m a then a :: q else seek w m q := by
  unfold seek
  rw [List.dropWhile_cons]
  cases fits w m a <;> rfl
theorem found_ok (hT : T 107 = some f_found_by) {k : Nat} (hH : SpHasAll (run T G k)) : SpFound (run T G (k + 1)) := fun p n w m S hp hn hw => by
  refine pur hT rfl (by show (closedD 0 (dP p) && (true && (true && (true && true)))) = true; rw [cl_P]; rfl) ?_ S
  show Wt (exs _ _ f_found_by.body [some (.tup (p.map dAt)), some (.int n), some (.str w), some (.bl m), none] []) _
  unfold f_found_by
  rw [wt_cons]
  simp only [ev, evs, evo, evT, evto, evF, evQ, evI, ex, wr_bind, wr_ok, wr_exc, wt_o, wt_seq, wt_turn, wt_next, wt_brk, wt_cont, wt_ret, wt_exc, Pl.R.bind_ok, Pl.R.o_ok, Pl.R.bind_exc, Pl.R.o_exc, List.getElem?_cons_zero, List.getElem?_cons_succ, List.set_cons_zero, List.set_cons_succ, len_tup, List.length_map]
  rw [if_pos (by omega)]
  simp only [ev, evs, evo, evT, evto, evF, evQ, evI, ex, wr_bind, wr_ok, wr_exc, wt_o, wt_seq, wt_turn, wt_next, wt_brk, wt_cont, wt_ret, wt_exc, Pl.R.bind_ok, Pl.R.o_ok, Pl.R.bind_exc, Pl.R.o_exc, List.getElem?_cons_zero, List.getElem?_cons_succ, List.set_cons_zero, List.set_cons_succ]
  refine for_map (e := fun k : Nat => D.int ((n : Int) + (k : Int))) (fun i ρ S' => ∃ x : Option D, ρ = [some (.tup (p.map dAt)), some (.int n), some (.str w), some (.bl m), x] ∧ S' = [] ∧ fndD p n w m = fndD p (n + i) w m) ⟨none, rfl, rfl, rfl⟩ (fun i c ρ S' hd hI => ?_) (fun ρ S' hI => ?_)
  · obtain ⟨x, rfl, rfl, he⟩ := hI
    have hi : i < p.length - n := by
      have := (List.getElem?_eq_some_iff.mp hd).1
      rw [List.length_range] at this
      omega
    have hc : c = i := by
      rw [List.getElem?_range (by omega)] at hd
      exact (Option.some.inj hd).symm
    subst hc
    have hin : n + c < p.length := by omega
    refine ⟨[some (.tup (p.map dAt)), some (.int n), some (.str w), some (.bl m), some (.int ((n : Int) + (c : Int)))], rfl, ?_⟩
    rw [wt_cons]
    have hix : ∀ S, idxV (.tup (p.map dAt)) (.int ((n : Int) + (c : Int))) S = .ok (dAt p[n + c]) S := fun S => idxV_tup (atI_go (by omega) (by rw [show ((n : Int) + (c : Int)).toNat = n + c by omega, List.getElem?_map, List.getElem?_eq_getElem hin]; rfl))
    have hdr : p.drop (n + c) = p[n + c] :: p.drop (n + (c + 1)) := by rw [List.drop_eq_getElem_cons hin]; rfl
    generalize hb : p[n + c] = b at *
    obtain ⟨bw, bm⟩ := b
    have hH2 := fun S => hH w bw S hw
    simp only [ev, evs, evo, evT, evto, evF, evQ, evI, ex, wr_bind, wr_ok, wr_exc, wt_o, wt_seq, wt_turn, wt_next, wt_brk, wt_cont, wt_ret, wt_exc, Pl.R.bind_ok, Pl.R.o_ok, Pl.R.bind_exc, Pl.R.o_exc, List.getElem?_cons_zero, List.getElem?_cons_succ, List.set_cons_zero, List.set_cons_succ, hix, at_0, at_1, hH2, truV]
    have hf : fits w m (bw, bm) = ((w.all fun c => decide (c ∈ bw)) && (bm || !m)) := rfl
    have hs : fndD p (n + c) w m = if fits w m (bw, bm) then .int ((n : Int) + (c : Int)) else fndD p (n + (c + 1)) w m := by
      unfold fndD
      rw [hdr, seek_cons]
      cases fits w m (bw, bm) with
      | true =>
        simp only [if_true]
        rw [List.length_drop]
        congr 1
        omega
      | false => rfl
    rw [hs, hf] at he
    cases hx : (w.all fun c => decide (c ∈ bw)) with
    | false =>
      rw [hx, Bool.false_and] at he
      simp only [ev, evs, evo, evT, evto, evF, evQ, evI, ex, wr_bind, wr_ok, wr_exc, wt_o, wt_seq, wt_turn, wt_next, wt_brk, wt_cont, wt_ret, wt_exc, Pl.R.bind_ok, Pl.R.o_ok, Pl.R.bind_exc, Pl.R.o_exc, List.getElem?_cons_zero, List.getElem?_cons_succ, List.set_cons_zero, List.set_cons_succ]
      rw [wt_nil]
      exact ⟨_, rfl, rfl, he⟩
    | true =>
      rw [hx, Bool.true_and] at he
      simp only [ev, evs, evo, evT, evto, evF, evQ, evI, ex, wr_bind, wr_ok, wr_exc, wt_o, wt_seq, wt_turn, wt_next, wt_brk, wt_cont, wt_ret, wt_exc, Pl.R.bind_ok, Pl.R.o_ok, Pl.R.bind_exc, Pl.R.o_exc, List.getElem?_cons_zero, List.getElem?_cons_succ, List.set_cons_zero, List.set_cons_succ, truV]
      cases bm with
      | true =>
        simp only [ev, evs, evo, evT, evto, evF, evQ, evI, ex, wr_bind, wr_ok, wr_exc, wt_o, wt_seq, wt_turn, wt_next, wt_brk, wt_cont, wt_ret, wt_exc, Pl.R.bind_ok, Pl.R.o_ok, Pl.R.bind_exc, Pl.R.o_exc, List.getElem?_cons_zero, List.getElem?_cons_succ, List.set_cons_zero, List.set_cons_succ]
        rw [wt_cons]
        simp only [ev, evs, evo, evT, evto, evF, evQ, evI, ex, wr_bind, wr_ok, wr_exc, wt_o, wt_seq, wt_turn, wt_next, wt_brk, wt_cont, wt_ret, wt_exc, Pl.R.bind_ok, Pl.R.o_ok, Pl.R.bind_exc, Pl.R.o_exc, List.getElem?_cons_zero, List.getElem?_cons_succ, List.set_cons_zero, List.set_cons_succ]
        rw [he]
        exact frz_cl rfl
      | false =>
        simp only [ev, evs, evo, evT, evto, evF, evQ, evI, ex, wr_bind, wr_ok, wr_exc, wt_o, wt_seq, wt_turn, wt_next, wt_brk, wt_cont, wt_ret, wt_exc, Pl.R.bind_ok, Pl.R.o_ok, Pl.R.bind_exc, Pl.R.o_exc, List.getElem?_cons_zero, List.getElem?_cons_succ, List.set_cons_zero, List.set_cons_succ, truV]
        cases m with
        | true =>
          simp only [ev, evs, evo, evT, evto, evF, evQ, evI, ex, wr_bind, wr_ok, wr_exc, wt_o, wt_seq, wt_turn, wt_next, wt_brk, wt_cont, wt_ret, wt_exc, Pl.R.bind_ok, Pl.R.o_ok, Pl.R.bind_exc, Pl.R.o_exc, List.getElem?_cons_zero, List.getElem?_cons_succ, List.set_cons_zero, List.set_cons_succ, Bool.not_true]
          rw [wt_nil]
          exact ⟨_, rfl, rfl, he⟩
        | false =>
          simp only [ev, evs, evo, evT, evto, evF, evQ, evI, ex, wr_bind, wr_ok, wr_exc, wt_o, wt_seq, wt_turn, wt_next, wt_brk, wt_cont, wt_ret, wt_exc, Pl.R.bind_ok, Pl.R.o_ok, Pl.R.bind_exc, Pl.R.o_exc, List.getElem?_cons_zero, List.getElem?_cons_succ, List.set_cons_zero, List.set_cons_succ, Bool.not_false]
          rw [wt_cons]
          simp only [ev, evs, evo, evT, evto, evF, evQ, evI, ex, wr_bind, wr_ok, wr_exc, wt_o, wt_seq, wt_turn, wt_next, wt_brk, wt_cont, wt_ret, wt_exc, Pl.R.bind_ok, Pl.R.o_ok, Pl.R.bind_exc, Pl.R.o_exc, List.getElem?_cons_zero, List.getElem?_cons_succ, List.set_cons_zero, List.set_cons_succ]
          rw [he]
          exact frz_cl rfl
  · obtain ⟨x, rfl, rfl, he⟩ := hI
    try dsimp only
    rw [wt_cons]
    simp only [ev, evs, evo, evT, evto, evF, evQ, evI, ex, wr_bind, wr_ok, wr_exc, wt_o, wt_seq, wt_turn, wt_next, wt_brk, wt_cont, wt_ret, wt_exc, Pl.R.bind_ok, Pl.R.o_ok, Pl.R.bind_exc, Pl.R.o_exc, List.getElem?_cons_zero, List.getElem?_cons_succ, List.set_cons_zero, List.set_cons_succ]
    rw [he]
    have : p.drop (n + (List.range (((p.length : Int) - (n : Int)).toNat)).length) = [] := by
      rw [List.length_range]
      exact List.drop_eq_nil_of_le (by omega)
    unfold fndD
    rw [this]
    exact frz_cl rfl
end
end Pl

set_option maxHeartbeats 4000000
/-! Products: words in them, drawn ones. -/
namespace Pl
open PySem L2
section
variable {T : Tab} {G : Nat → Option D} {C : Nat → List D → Sto → R D}
theorem seek_split (w : List Nat) (m : Bool) : ∀ q : List At, (seek w m q = [] ∧ ∀ a ∈ q, fits w m a = false) ∨ ∃ t b r, seek w m q = b :: r ∧ q = t ++ b :: r ∧ (∀ a ∈ t, fits w m a = false) ∧ fits w m b = true
  | [] => .inl ⟨rfl, fun _ h => nomatch h⟩
  | a :: q => by
    rw [seek_cons]
    cases h : fits w m a with
    | true => exact .inr ⟨[], a, q, rfl, rfl, (fun _ h => nomatch h), h⟩
    | false =>
      rcases seek_split w m q with ⟨h1, h2⟩ | ⟨t, b, r, h1, h2, h3, h4⟩
      · refine .inl ⟨by simpa using h1, fun x hx => ?_⟩
        rcases List.mem_cons.mp hx with rfl | hx
        · exact h
        · exact h2 x hx
      · refine .inr ⟨a :: t, b, r, by simpa using h1, by rw [h2]; rfl, fun x hx => ?_, h4⟩
        rcases List.mem_cons.mp hx with rfl | hx
        · exact h
        · exact h3 x hx
theorem drop_next {p t r : List At} {b : At} {n : Nat} (h : p.drop n = t ++ b :: r) : n + t.length < p.length ∧ p[n + t.length]? = some b ∧ p.drop (n + t.length) = b :: r ∧ p.drop (n + t.length + 1) = r ∧ p.length - (r.length + 1) = n + t.length := by
  have h1 : p.drop (n + t.length) = b :: r := by
    rw [← List.drop_drop, h]
    simp
  have hl := congrArg List.length h1
  rw [List.length_drop, List.length_cons] at hl
  have h2 : n + t.length < p.length := by omega
  refine ⟨h2, ?_, h1, ?_, by omega⟩
  · have := List.drop_eq_getElem_cons h2
    rw [h1] at this
    rw [List.getElem?_eq_getElem h2]
    exact congrArg some (List.cons.inj this).1.symm
  · rw [← List.drop_drop, h1]
    rfl
theorem lies_none {a : At} {one q : List At} (h : seek a.1 a.2 q = []) : lies (a :: one) q = false := by
  rw [lies]
  simp only [h]
theorem lies_some {a b : At} {one q r : List At} (h : seek a.1 a.2 q = b :: r) : lies (a :: one) q = lies one (if b.2 then b :: r else r) := by
  rw [lies]
  simp only [h]
def SpLies (C : Nat → List D → Sto → R D) : Prop := ∀ (one p : List At) (S : Sto), one.length ≤ 10000 → p.length ≤ 10000 → (∀ a ∈ one, a.1.length ≤ 100000) → scp 0 false (C 108) [dP one, dP p] S = .ok (.bl (lies one p)) S
theorem liesin_ok (hT : T 108 = some f_lies_in) {k : Nat} (hF : SpFound (run T G k)) : SpLies (run T G (k + 1)) := fun one p S h1 h2 h3 => by
  refine pur hT rfl (by show (closedD 0 (dP one) && (closedD 0 (dP p) && true)) = true; rw [cl_P, cl_P]; rfl) ?_ S
  show Wt (exs _ _ f_lies_in.body [some (.tup (one.map dAt)), some (.tup (p.map dAt)), none, none, none, none] []) _
  unfold f_lies_in
  rw [wt_cons]
  simp only [ev, evs, evo, evT, evto, evF, evQ, evI, ex, wr_bind, wr_ok, wr_exc, wt_o, wt_seq, wt_turn, wt_next, wt_brk, wt_cont, wt_ret, wt_exc, Pl.R.bind_ok, Pl.R.o_ok, Pl.R.bind_exc, Pl.R.o_exc, List.getElem?_cons_zero, List.getElem?_cons_succ, List.set_cons_zero, List.set_cons_succ]
  rw [wt_cons]
  simp only [ev, evs, evo, evT, evto, evF, evQ, evI, ex, wr_bind, wr_ok, wr_exc, wt_o, wt_seq, wt_turn, wt_next, wt_brk, wt_cont, wt_ret, wt_exc, Pl.R.bind_ok, Pl.R.o_ok, Pl.R.bind_exc, Pl.R.o_exc, List.getElem?_cons_zero, List.getElem?_cons_succ, List.set_cons_zero, List.set_cons_succ, seqV]
  refine for_map (e := dAt) (fun i ρ S' => ∃ (n : Nat) (x y z : Option D), ρ = [some (.tup (one.map dAt)), some (.tup (p.map dAt)), some (.int (n : Int)), x, y, z] ∧ S' = [] ∧ n ≤ p.length ∧ lies one p = lies (one.drop i) (p.drop n)) ⟨0, none, none, none, rfl, rfl, Nat.zero_le _, rfl⟩ (fun i a ρ S' hd hI => ?_) (fun ρ S' hI => ?_)
  · obtain ⟨n, x, y, z, rfl, rfl, hn, he⟩ := hI
    have hlt := (List.getElem?_eq_some_iff.mp hd).1
    have hdrop : one.drop i = a :: one.drop (i + 1) := by
      rw [List.drop_eq_getElem_cons hlt]
      rw [List.getElem?_eq_getElem hlt] at hd
      rw [Option.some.inj hd]
    have ha := h3 a (List.mem_of_getElem? hd)
    rw [hdrop] at he
    obtain ⟨w, m⟩ := a
    refine ⟨[some (.tup (one.map dAt)), some (.tup (p.map dAt)), some (.int (n : Int)), some (.str w), some (.bl m), z], rfl, ?_⟩
    rw [wt_cons]
    have hF2 : ∀ S, scp 0 false (run T G k 107) [.tup (p.map dAt), .int (n : Int), .str w, .bl m] S = .ok (fndD p n w m) S := fun S => hF p n w m S h2 hn ha
    simp only [ev, evs, evo, evT, evto, evF, evQ, evI, ex, wr_bind, wr_ok, wr_exc, wt_o, wt_seq, wt_turn, wt_next, wt_brk, wt_cont, wt_ret, wt_exc, Pl.R.bind_ok, Pl.R.o_ok, Pl.R.bind_exc, Pl.R.o_exc, List.getElem?_cons_zero, List.getElem?_cons_succ, List.set_cons_zero, List.set_cons_succ, hF2]
    rw [wt_cons]
    simp only [ev, evs, evo, evT, evto, evF, evQ, evI, ex, wr_bind, wr_ok, wr_exc, wt_o, wt_seq, wt_turn, wt_next, wt_brk, wt_cont, wt_ret, wt_exc, Pl.R.bind_ok, Pl.R.o_ok, Pl.R.bind_exc, Pl.R.o_exc, List.getElem?_cons_zero, List.getElem?_cons_succ, List.set_cons_zero, List.set_cons_succ, c_isN]
    rcases seek_split w m (p.drop n) with ⟨q1, q2⟩ | ⟨t, b, r, q1, q2, q3, q4⟩
    · have e1 : fndD p n w m = .non := by unfold fndD; rw [q1]
      have e2 : lies one p = false := by rw [he]; exact lies_none q1
      rw [e1, e2]
      simp only [isNn, truV, ev, evs, evo, evT, evto, evF, evQ, evI, ex, wr_bind, wr_ok, wr_exc, wt_o, wt_seq, wt_turn, wt_next, wt_brk, wt_cont, wt_ret, wt_exc, Pl.R.bind_ok, Pl.R.o_ok, Pl.R.bind_exc, Pl.R.o_exc, List.getElem?_cons_zero, List.getElem?_cons_succ, List.set_cons_zero, List.set_cons_succ]
      rw [wt_cons]
      simp only [ev, evs, evo, evT, evto, evF, evQ, evI, ex, wr_bind, wr_ok, wr_exc, wt_o, wt_seq, wt_turn, wt_next, wt_brk, wt_cont, wt_ret, wt_exc, Pl.R.bind_ok, Pl.R.o_ok, Pl.R.bind_exc, Pl.R.o_exc, List.getElem?_cons_zero, List.getElem?_cons_succ, List.set_cons_zero, List.set_cons_succ]
      exact frz_cl rfl
    · obtain ⟨g1, g2, g3, g4, g5⟩ := drop_next q2
      have e1 : fndD p n w m = .int ((n + t.length : Nat) : Int) := by unfold fndD; rw [q1]; simp only [g5]
      have e2 : lies one p = lies (one.drop (i + 1)) (if b.2 then b :: r else r) := by rw [he]; exact lies_some q1
      rw [e1]
      simp only [isNn, truV, ev, evs, evo, evT, evto, evF, evQ, evI, ex, wr_bind, wr_ok, wr_exc, wt_o, wt_seq, wt_turn, wt_next, wt_brk, wt_cont, wt_ret, wt_exc, Pl.R.bind_ok, Pl.R.o_ok, Pl.R.bind_exc, Pl.R.o_exc, List.getElem?_cons_zero, List.getElem?_cons_succ, List.set_cons_zero, List.set_cons_succ]
      rw [wt_nil]
      dsimp only
      rw [wt_cons]
      obtain ⟨bw, bm⟩ := b
      have hix : ∀ S, idxV (.tup (p.map dAt)) (.int ((n + t.length : Nat) : Int)) S = .ok (dAt (bw, bm)) S := fun S => idxV_tup (atI_go (by omega) (by rw [show (((n + t.length : Nat) : Int)).toNat = n + t.length by omega, List.getElem?_map, g2]; rfl))
      simp only [ev, evs, evo, evT, evto, evF, evQ, evI, ex, wr_bind, wr_ok, wr_exc, wt_o, wt_seq, wt_turn, wt_next, wt_brk, wt_cont, wt_ret, wt_exc, Pl.R.bind_ok, Pl.R.o_ok, Pl.R.bind_exc, Pl.R.o_exc, List.getElem?_cons_zero, List.getElem?_cons_succ, List.set_cons_zero, List.set_cons_succ, hix, at_1, truV]
      cases bm with
      | true =>
        simp only [ev, evs, evo, evT, evto, evF, evQ, evI, ex, wr_bind, wr_ok, wr_exc, wt_o, wt_seq, wt_turn, wt_next, wt_brk, wt_cont, wt_ret, wt_exc, Pl.R.bind_ok, Pl.R.o_ok, Pl.R.bind_exc, Pl.R.o_exc, List.getElem?_cons_zero, List.getElem?_cons_succ, List.set_cons_zero, List.set_cons_succ]
        rw [wt_nil]
        exact ⟨n + t.length, _, _, _, rfl, rfl, by omega, by rw [e2, g3]; rfl⟩
      | false =>
        simp only [ev, evs, evo, evT, evto, evF, evQ, evI, ex, wr_bind, wr_ok, wr_exc, wt_o, wt_seq, wt_turn, wt_next, wt_brk, wt_cont, wt_ret, wt_exc, Pl.R.bind_ok, Pl.R.o_ok, Pl.R.bind_exc, Pl.R.o_exc, List.getElem?_cons_zero, List.getElem?_cons_succ, List.set_cons_zero, List.set_cons_succ, v_add]
        rw [wt_nil]
        refine ⟨n + t.length + 1, some (.str w), some (.bl m), some (.int ((n + t.length : Nat) : Int)), ?_, rfl, by omega, by rw [e2, g4]; rfl⟩
        rw [show ((n + t.length : Nat) : Int) + 1 = ((n + t.length + 1 : Nat) : Int) by omega]
  · obtain ⟨n, x, y, z, rfl, rfl, hn, he⟩ := hI
    try dsimp only
    rw [wt_cons]
    simp only [ev, evs, evo, evT, evto, evF, evQ, evI, ex, wr_bind, wr_ok, wr_exc, wt_o, wt_seq, wt_turn, wt_next, wt_brk, wt_cont, wt_ret, wt_exc, Pl.R.bind_ok, Pl.R.o_ok, Pl.R.bind_exc, Pl.R.o_exc, List.getElem?_cons_zero, List.getElem?_cons_succ, List.set_cons_zero, List.set_cons_succ]
    rw [he, List.drop_length]
    exact frz_cl rfl
/-- a word as a product -/
def wP (w : List Nat) : List At := w.map fun c => ([c], false)
def SpLettersOf (C : Nat → List D → Sto → R D) : Prop := ∀ (w : List Nat) (S : Sto), w.length ≤ 100000 → scp 0 false (C 109) [.str w] S = .ok (dP (wP w)) S
theorem lettersof_ok (hT : T 109 = some f_letters_of) (k : Nat) : SpLettersOf (run T G (k + 1)) := fun w S hw => by
  refine pur hT rfl rfl ?_ S
  show Wt (exs _ _ f_letters_of.body [some (.str w), none] []) _
  unfold f_letters_of
  rw [wt_cons]
  simp only [ev, evs, evo, evT, evto, evF, evQ, evI, ex, wr_bind, wr_ok, wr_exc, wt_o, wt_seq, wt_turn, wt_next, wt_brk, wt_cont, wt_ret, wt_exc, Pl.R.bind_ok, Pl.R.o_ok, Pl.R.bind_exc, Pl.R.o_exc, List.getElem?_cons_zero, List.getElem?_cons_succ, List.set_cons_zero, List.set_cons_succ]
  rw [if_pos (by rw [List.length_map]; exact hw)]
  rw [lc_map (e := fun c : Nat => D.str [c]) (fun c => dAt ([c], false)) w (fun c hc => ?_)]
  · simp only [ev, evs, evo, evT, evto, evF, evQ, evI, ex, wr_bind, wr_ok, wr_exc, wt_o, wt_seq, wt_turn, wt_next, wt_brk, wt_cont, wt_ret, wt_exc, Pl.R.bind_ok, Pl.R.o_ok, Pl.R.bind_exc, Pl.R.o_exc, List.getElem?_cons_zero, List.getElem?_cons_succ, List.set_cons_zero, List.set_cons_succ]
    have : dP (wP w) = .tup (w.map fun c => dAt ([c], false)) := by unfold dP wP; rw [List.map_map]; rfl
    rw [this]
    exact frz_cl (closedL_map fun _ => rfl)
  · simp only [List.map_cons, List.map_nil, wipeD, bindTg, ev, evs, evo, evT, evto, evF, evQ, evI, ex, wr_bind, wr_ok, wr_exc, wt_o, wt_seq, wt_turn, wt_next, wt_brk, wt_cont, wt_ret, wt_exc, Pl.R.bind_ok, Pl.R.o_ok, Pl.R.bind_exc, Pl.R.o_exc, List.getElem?_cons_zero, List.getElem?_cons_succ, List.set_cons_zero, List.set_cons_succ]
    rfl
def SpProductOf (C : Nat → List D → Sto → R D) : Prop := ∀ (w : List Nat) (S : Sto), w.length ≤ 100000 → Lett w → scp 0 false (C 140) [.str w] S = .ok (dP (wP w)) S
theorem productof_ok (hT : T 140 = some f_product_of) {k : Nat} (hW : SpIsWord (run T G k)) (hL : SpLettersOf (run T G k)) : SpProductOf (run T G (k + 1)) := fun w S hw hl => by
  refine pur hT rfl rfl ?_ S
  show Wt (exs _ _ f_product_of.body [some (.str w)] []) _
  unfold f_product_of
  rw [wt_cons]
  simp only [ev, evs, evo, evT, evto, evF, evQ, evI, ex, wr_bind, wr_ok, wr_exc, wt_o, wt_seq, wt_turn, wt_next, wt_brk, wt_cont, wt_ret, wt_exc, Pl.R.bind_ok, Pl.R.o_ok, Pl.R.bind_exc, Pl.R.o_exc, List.getElem?_cons_zero, List.getElem?_cons_succ, List.set_cons_zero, List.set_cons_succ, hW w [] hw, hl.lettB, truV, Bool.not_true]
  rw [wt_nil]
  try dsimp only
  rw [wt_cons]
  simp only [ev, evs, evo, evT, evto, evF, evQ, evI, ex, wr_bind, wr_ok, wr_exc, wt_o, wt_seq, wt_turn, wt_next, wt_brk, wt_cont, wt_ret, wt_exc, Pl.R.bind_ok, Pl.R.o_ok, Pl.R.bind_exc, Pl.R.o_exc, List.getElem?_cons_zero, List.getElem?_cons_succ, List.set_cons_zero, List.set_cons_succ, hL w [] hw]
  exact frz_cl (cl_P _)
def SpHolds (C : Nat → List D → Sto → R D) : Prop := ∀ (p : List At) (w : List Nat) (S : Sto), PrOk p → w.length ≤ 10000 → Lett w → scp 0 false (C 138) [dP p, .str w] S = .ok (.bl (lies (wP w) p)) S
theorem holds_ok (hT : T 138 = some f_holds) {k : Nat} (hN : SpNeedProd (run T G k)) (hW : SpIsWord (run T G k)) (hL : SpLies (run T G k)) : SpHolds (run T G (k + 1)) := fun p w S hp hw hl => by
  refine pur hT rfl (by show (closedD 0 (dP p) && (true && true)) = true; rw [cl_P]; rfl) ?_ S
  show Wt (exs _ _ f_holds.body [some (dP p), some (.str w), none] []) _
  unfold f_holds
  rw [wt_cons]
  have hpl := hp.len
  simp only [ev, evs, evo, evT, evto, evF, evQ, evI, ex, wr_bind, wr_ok, wr_exc, wt_o, wt_seq, wt_turn, wt_next, wt_brk, wt_cont, wt_ret, wt_exc, Pl.R.bind_ok, Pl.R.o_ok, Pl.R.bind_exc, Pl.R.o_exc, List.getElem?_cons_zero, List.getElem?_cons_succ, List.set_cons_zero, List.set_cons_succ, hN p [] hp]
  rw [wt_cons]
  simp only [ev, evs, evo, evT, evto, evF, evQ, evI, ex, wr_bind, wr_ok, wr_exc, wt_o, wt_seq, wt_turn, wt_next, wt_brk, wt_cont, wt_ret, wt_exc, Pl.R.bind_ok, Pl.R.o_ok, Pl.R.bind_exc, Pl.R.o_exc, List.getElem?_cons_zero, List.getElem?_cons_succ, List.set_cons_zero, List.set_cons_succ, hW w [] (by omega), hl.lettB, truV, Bool.not_true]
  rw [wt_nil]
  try dsimp only
  rw [wt_cons]
  simp only [ev, evs, evo, evT, evto, evF, evQ, evI, ex, wr_bind, wr_ok, wr_exc, wt_o, wt_seq, wt_turn, wt_next, wt_brk, wt_cont, wt_ret, wt_exc, Pl.R.bind_ok, Pl.R.o_ok, Pl.R.bind_exc, Pl.R.o_exc, List.getElem?_cons_zero, List.getElem?_cons_succ, List.set_cons_zero, List.set_cons_succ]
  rw [if_pos (by rw [List.length_map]; show _ ≤ 100000; omega)]
  rw [lc_map (e := fun c : Nat => D.str [c]) (fun c => dAt ([c], false)) w (fun c hc => ?_)]
  · simp only [ev, evs, evo, evT, evto, evF, evQ, evI, ex, wr_bind, wr_ok, wr_exc, wt_o, wt_seq, wt_turn, wt_next, wt_brk, wt_cont, wt_ret, wt_exc, Pl.R.bind_ok, Pl.R.o_ok, Pl.R.bind_exc, Pl.R.o_exc, List.getElem?_cons_zero, List.getElem?_cons_succ, List.set_cons_zero, List.set_cons_succ]
    have e : D.tup (w.map fun c => dAt ([c], false)) = dP (wP w) := by unfold dP wP; rw [List.map_map]; rfl
    rw [e, hL (wP w) p [] (by unfold wP; rw [List.length_map]; omega) (by omega) (fun a ha => by
      obtain ⟨c, _, rfl⟩ := List.mem_map.mp ha
      show 1 ≤ 100000
      omega)]
    exact frz_cl rfl
  · simp only [List.map_cons, List.map_nil, wipeD, bindTg, ev, evs, evo, evT, evto, evF, evQ, evI, ex, wr_bind, wr_ok, wr_exc, wt_o, wt_seq, wt_turn, wt_next, wt_brk, wt_cont, wt_ret, wt_exc, Pl.R.bind_ok, Pl.R.o_ok, Pl.R.bind_exc, Pl.R.o_exc, List.getElem?_cons_zero, List.getElem?_cons_succ, List.set_cons_zero, List.set_cons_succ]
    rfl
/-! ### the law's own holds -/
theorem ints_map {α : Type} (f : α → Int) : ∀ xs : List α, intsD (xs.map fun x => D.int (f x)) = some (xs.map f)
  | [] => rfl
  | x :: xs => by simp only [List.map_cons, intsD, ints_map f xs, Option.map_some]
def SpLHolds (C : Nat → List D → Sto → R D) : Prop := ∀ (p : List At) (w : List Nat) (S : Sto), p.length ≤ 10000 → w.length ≤ 100000 → scp 0 false (C 139) [dP p, .str w] S = .ok (.bl (lies (wP w) p)) S
theorem lholds_ok (hT : T 139 = some f__law_holds) (k : Nat) : SpLHolds (run T G (k + 1)) := fun p w S hp hw => by
  refine pur hT rfl (by show (closedD 0 (dP p) && (true && true)) = true; rw [cl_P]; rfl) ?_ S
  show Wt (exs _ _ f__law_holds.body [some (.tup (p.map dAt)), some (.str w), none, none, none, none] []) _
  unfold f__law_holds
  rw [wt_cons]
  simp only [ev, evs, evo, evT, evto, evF, evQ, evI, ex, wr_bind, wr_ok, wr_exc, wt_o, wt_seq, wt_turn, wt_next, wt_brk, wt_cont, wt_ret, wt_exc, Pl.R.bind_ok, Pl.R.o_ok, Pl.R.bind_exc, Pl.R.o_exc, List.getElem?_cons_zero, List.getElem?_cons_succ, List.set_cons_zero, List.set_cons_succ]
  rw [wt_cons]
  simp only [ev, evs, evo, evT, evto, evF, evQ, evI, ex, wr_bind, wr_ok, wr_exc, wt_o, wt_seq, wt_turn, wt_next, wt_brk, wt_cont, wt_ret, wt_exc, Pl.R.bind_ok, Pl.R.o_ok, Pl.R.bind_exc, Pl.R.o_exc, List.getElem?_cons_zero, List.getElem?_cons_succ, List.set_cons_zero, List.set_cons_succ]
  refine for_map (fun i ρ S' => ∃ (n : Nat) (x y z : Option D), ρ = [some (.tup (p.map dAt)), some (.str w), some (.int (n : Int)), x, y, z] ∧ S' = [] ∧ n ≤ p.length ∧ lies (wP w) p = lies (wP (w.drop i)) (p.drop n)) ⟨0, none, none, none, rfl, rfl, Nat.zero_le _, rfl⟩ (fun i c ρ S' hd hI => ?_) (fun ρ S' hI => ?_)
  · obtain ⟨n, x, y, z, rfl, rfl, hn, he⟩ := hI
    have hlt := (List.getElem?_eq_some_iff.mp hd).1
    have hdrop : w.drop i = c :: w.drop (i + 1) := by
      rw [List.drop_eq_getElem_cons hlt]
      rw [List.getElem?_eq_getElem hlt] at hd
      rw [Option.some.inj hd]
    rw [hdrop] at he
    refine ⟨[some (.tup (p.map dAt)), some (.str w), some (.int (n : Int)), some (.str [c]), y, z], rfl, ?_⟩
    rw [wt_cons]
    simp only [ev, evs, evo, evT, evto, evF, evQ, evI, ex, wr_bind, wr_ok, wr_exc, wt_o, wt_seq, wt_turn, wt_next, wt_brk, wt_cont, wt_ret, wt_exc, Pl.R.bind_ok, Pl.R.o_ok, Pl.R.bind_exc, Pl.R.o_exc, List.getElem?_cons_zero, List.getElem?_cons_succ, List.set_cons_zero, List.set_cons_succ, len_tup, List.length_map]
    rw [if_pos (by omega)]
    simp only [ev, evs, evo, evT, evto, evF, evQ, evI, ex, wr_bind, wr_ok, wr_exc, wt_o, wt_seq, wt_turn, wt_next, wt_brk, wt_cont, wt_ret, wt_exc, Pl.R.bind_ok, Pl.R.o_ok, Pl.R.bind_exc, Pl.R.o_exc, List.getElem?_cons_zero, List.getElem?_cons_succ, List.set_cons_zero, List.set_cons_succ]
    rw [if_pos (by rw [List.length_map, List.length_range]; show _ ≤ 100000; omega)]
    have hix : ∀ (j : Nat) (h : n + j < p.length) (S : Sto), idxV (.tup (p.map dAt)) (.int ((n : Int) + (j : Int))) S = .ok (dAt p[n + j]) S := fun j h S => idxV_tup (atI_go (by omega) (by rw [show ((n : Int) + (j : Int)).toNat = n + j by omega, List.getElem?_map, List.getElem?_eq_getElem h]; rfl))
    have hlen : ((p.length : Int) - (n : Int)).toNat = p.length - n := by omega
    rw [lc_filter (e := fun j : Nat => D.int ((n : Int) + (j : Int))) (fun j => match p[n + j]? with | some a => decide (c ∈ a.1) | none => false) (fun j => D.int ((n : Int) + (j : Int))) _ (fun j hj => ?_)]
    rotate_left
    · have hj2 := List.mem_range.mp hj
      have hj3 : n + j < p.length := by omega
      simp only [List.map_cons, List.map_nil, wipeD, bindTg, ev, evs, evo, evT, evto, evF, evQ, evI, ex, wr_bind, wr_ok, wr_exc, wt_o, wt_seq, wt_turn, wt_next, wt_brk, wt_cont, wt_ret, wt_exc, Pl.R.bind_ok, Pl.R.o_ok, Pl.R.bind_exc, Pl.R.o_exc, List.getElem?_cons_zero, List.getElem?_cons_succ, List.set_cons_zero, List.set_cons_succ, hix j hj3, evto]
      rw [List.getElem?_eq_getElem hj3]
      generalize p[n + j] = a
      obtain ⟨aw, am⟩ := a
      simp only [ev, evs, evo, evT, evto, evF, evQ, evI, ex, wr_bind, wr_ok, wr_exc, wt_o, wt_seq, wt_turn, wt_next, wt_brk, wt_cont, wt_ret, wt_exc, Pl.R.bind_ok, Pl.R.o_ok, Pl.R.bind_exc, Pl.R.o_exc, List.getElem?_cons_zero, List.getElem?_cons_succ, List.set_cons_zero, List.set_cons_succ, at_0, in_one]
      by_cases hc : c ∈ aw
      · simp only [hc, decide_true]
        rfl
      · simp only [hc, decide_false]
        rfl
    simp only [ev, evs, evo, evT, evto, evF, evQ, evI, ex, wr_bind, wr_ok, wr_exc, wt_o, wt_seq, wt_turn, wt_next, wt_brk, wt_cont, wt_ret, wt_exc, Pl.R.bind_ok, Pl.R.o_ok, Pl.R.bind_exc, Pl.R.o_exc, List.getElem?_cons_zero, List.getElem?_cons_succ, List.set_cons_zero, List.set_cons_succ]
    rw [wt_cons, hlen]
    generalize hF : (List.range (p.length - n)).filter (fun j => match p[n + j]? with | some a => decide (c ∈ a.1) | none => false) = F
    have hmF : ∀ j, j ∈ F ↔ ∃ a, p[n + j]? = some a ∧ c ∈ a.1 := fun j => by
      rw [← hF, List.mem_filter, List.mem_range]
      constructor
      · rintro ⟨_, h⟩
        cases q : p[n + j]? with
        | none => rw [q] at h; cases h
        | some a => rw [q] at h; exact ⟨a, rfl, of_decide_eq_true h⟩
      · rintro ⟨a, h1, h2⟩
        have := (List.getElem?_eq_some_iff.mp h1).1
        rw [h1]
        exact ⟨by omega, decide_eq_true h2⟩
    have hfit : ∀ a : At, fits [c] false a = decide (c ∈ a.1) := fun a => by simp [fits]
    have hdv : dv 5 (.fro (F.map fun j : Nat => D.int ((n : Int) + (j : Int)))) := dv_map (n := 4) fun _ _ => trivial
    simp only [ev, evs, evo, evT, evto, evF, evQ, evI, ex, wr_bind, wr_ok, wr_exc, wt_o, wt_seq, wt_turn, wt_next, wt_brk, wt_cont, wt_ret, wt_exc, Pl.R.bind_ok, Pl.R.o_ok, Pl.R.bind_exc, Pl.R.o_exc, List.getElem?_cons_zero, List.getElem?_cons_succ, List.set_cons_zero, List.set_cons_succ, List.length_nil, Nat.zero_le, if_true]
    rcases seek_split [c] false (p.drop n) with ⟨q1, q2⟩ | ⟨t, b, r, q1, q2, q3, q4⟩
    · have e2 : lies (wP w) p = false := by rw [he]; exact lies_none q1
      have e1 : F = [] := by
        rw [List.eq_nil_iff_forall_not_mem]
        intro j hj
        obtain ⟨a, h1, h2⟩ := (hmF j).mp hj
        have := q2 a (List.mem_of_getElem? (by rw [List.getElem?_drop]; exact h1))
        rw [hfit, decide_eq_false_iff_not] at this
        exact this h2
      rw [e1, e2]
      simp only [List.map_nil]
      rw [eq_yes (a := .fro []) (b := .fro []) rfl (n := 5) (fun x hx => nomatch hx) (by decide)]
      simp only [ev, evs, evo, evT, evto, evF, evQ, evI, ex, wr_bind, wr_ok, wr_exc, wt_o, wt_seq, wt_turn, wt_next, wt_brk, wt_cont, wt_ret, wt_exc, Pl.R.bind_ok, Pl.R.o_ok, Pl.R.bind_exc, Pl.R.o_exc, List.getElem?_cons_zero, List.getElem?_cons_succ, List.set_cons_zero, List.set_cons_succ]
      rw [wt_cons]
      simp only [ev, evs, evo, evT, evto, evF, evQ, evI, ex, wr_bind, wr_ok, wr_exc, wt_o, wt_seq, wt_turn, wt_next, wt_brk, wt_cont, wt_ret, wt_exc, Pl.R.bind_ok, Pl.R.o_ok, Pl.R.bind_exc, Pl.R.o_exc, List.getElem?_cons_zero, List.getElem?_cons_succ, List.set_cons_zero, List.set_cons_succ]
      exact frz_cl rfl
    · obtain ⟨g1, g2, g3, g4, g5⟩ := drop_next q2
      have e2 : lies (wP w) p = lies (wP (w.drop (i + 1))) (if b.2 then b :: r else r) := by rw [he]; exact lies_some q1
      have hjF : t.length ∈ F := (hmF _).mpr ⟨b, g2, by rw [hfit] at q4; exact of_decide_eq_true q4⟩
      have hmin : ∀ j ∈ F, t.length ≤ j := fun j hj => by
        obtain ⟨a, h1, h2⟩ := (hmF j).mp hj
        rcases Nat.lt_or_ge j t.length with h | h
        · have h5 : (p.drop n)[j]? = some a := by rw [List.getElem?_drop]; exact h1
          rw [q2, List.getElem?_append_left h] at h5
          have := q3 a (List.mem_of_getElem? h5)
          rw [hfit, decide_eq_false_iff_not] at this
          exact absurd h2 this
        · exact h
      have hne : F ≠ [] := fun e => by rw [e] at hjF; exact nomatch hjF
      rw [eq_no (n := 5) (b := .fro []) (fun e => hne (by simpa using e)) hdv (fun x hx => nomatch hx) (by decide)]
      simp only [ev, evs, evo, evT, evto, evF, evQ, evI, ex, wr_bind, wr_ok, wr_exc, wt_o, wt_seq, wt_turn, wt_next, wt_brk, wt_cont, wt_ret, wt_exc, Pl.R.bind_ok, Pl.R.o_ok, Pl.R.bind_exc, Pl.R.o_exc, List.getElem?_cons_zero, List.getElem?_cons_succ, List.set_cons_zero, List.set_cons_succ]
      rw [wt_nil]
      try dsimp only
      rw [wt_cons]
      simp only [ev, evs, evo, evT, evto, evF, evQ, evI, ex, wr_bind, wr_ok, wr_exc, wt_o, wt_seq, wt_turn, wt_next, wt_brk, wt_cont, wt_ret, wt_exc, Pl.R.bind_ok, Pl.R.o_ok, Pl.R.bind_exc, Pl.R.o_exc, List.getElem?_cons_zero, List.getElem?_cons_succ, List.set_cons_zero, List.set_cons_succ, seqV]
      rw [if_pos (by rw [List.length_map, ← hF]; exact Nat.le_trans (List.length_filter_le _ _) (by rw [List.length_range]; show _ ≤ 100000; omega))]
      rw [lc_map (e := fun j : Nat => D.int ((n : Int) + (j : Int))) (fun j => D.int (((n : Int) + (j : Int)) + 1 - (match p[n + j]? with | some a => (if a.2 then 1 else 0) | none => 0))) F (fun j hj => ?_)]
      rotate_left
      · obtain ⟨a, h1, h2⟩ := (hmF j).mp hj
        have hj3 := (List.getElem?_eq_some_iff.mp h1).1
        simp only [List.map_cons, List.map_nil, wipeD, bindTg, ev, evs, evo, evT, evto, evF, evQ, evI, ex, wr_bind, wr_ok, wr_exc, wt_o, wt_seq, wt_turn, wt_next, wt_brk, wt_cont, wt_ret, wt_exc, Pl.R.bind_ok, Pl.R.o_ok, Pl.R.bind_exc, Pl.R.o_exc, List.getElem?_cons_zero, List.getElem?_cons_succ, List.set_cons_zero, List.set_cons_succ, hix j hj3, v_add, h1]
        rw [(List.getElem?_eq_some_iff.mp h1).2]
        obtain ⟨aw, am⟩ := a
        simp only [ev, evs, evo, evT, evto, evF, evQ, evI, ex, wr_bind, wr_ok, wr_exc, wt_o, wt_seq, wt_turn, wt_next, wt_brk, wt_cont, wt_ret, wt_exc, Pl.R.bind_ok, Pl.R.o_ok, Pl.R.bind_exc, Pl.R.o_exc, List.getElem?_cons_zero, List.getElem?_cons_succ, List.set_cons_zero, List.set_cons_succ, at_1, v_sub]
      simp only [ev, evs, evo, evT, evto, evF, evQ, evI, ex, wr_bind, wr_ok, wr_exc, wt_o, wt_seq, wt_turn, wt_next, wt_brk, wt_cont, wt_ret, wt_exc, Pl.R.bind_ok, Pl.R.o_ok, Pl.R.bind_exc, Pl.R.o_exc, List.getElem?_cons_zero, List.getElem?_cons_succ, List.set_cons_zero, List.set_cons_succ, Bool.false_eq_true, if_false, ints_map]
      have hagg : aggV .mn (F.map fun j : Nat => ((n : Int) + (j : Int)) + 1 - (match p[n + j]? with | some a => (if a.2 then 1 else 0) | none => 0)) = some (((n : Int) + (t.length : Int)) + 1 - (if b.2 then 1 else 0)) := by
        have hmem : ((n : Int) + (t.length : Int)) + 1 - (if b.2 then 1 else 0) ∈ F.map fun j : Nat => ((n : Int) + (j : Int)) + 1 - (match p[n + j]? with | some a => (if a.2 then 1 else 0) | none => 0) :=
          List.mem_map.mpr ⟨t.length, hjF, by rw [g2]⟩
        have hle : ∀ y, y ∈ F.map (fun j : Nat => ((n : Int) + (j : Int)) + 1 - (match p[n + j]? with | some a => (if a.2 then 1 else 0) | none => 0)) → ((n : Int) + (t.length : Int)) + 1 - (if b.2 then 1 else 0) ≤ y := fun y hy => by
          obtain ⟨j, hj, rfl⟩ := List.mem_map.mp hy
          obtain ⟨a, h1, h2⟩ := (hmF j).mp hj
          have h6 := hmin j hj
          rcases Nat.lt_or_ge t.length j with h7 | h7
          · rw [h1]
            dsimp only
            split <;> split <;> omega
          · have : j = t.length := by omega
            subst this
            rw [g2]
            exact Int.le_refl _
        cases hL : F.map (fun j : Nat => ((n : Int) + (j : Int)) + 1 - (match p[n + j]? with | some a => (if a.2 then 1 else 0) | none => 0)) with
        | nil => rw [hL] at hmem; exact nomatch hmem
        | cons y ys =>
          rw [hL] at hmem hle
          exact congrArg some (fold_min ys y _ hmem hle)
      rw [hagg]
      simp only [ev, evs, evo, evT, evto, evF, evQ, evI, ex, wr_bind, wr_ok, wr_exc, wt_o, wt_seq, wt_turn, wt_next, wt_brk, wt_cont, wt_ret, wt_exc, Pl.R.bind_ok, Pl.R.o_ok, Pl.R.bind_exc, Pl.R.o_exc, List.getElem?_cons_zero, List.getElem?_cons_succ, List.set_cons_zero, List.set_cons_succ]
      rw [wt_nil]
      cases hb : b.2 with
      | true =>
        rw [hb] at e2
        exact ⟨n + t.length, _, _, _, by simp only [hb, if_true]; rw [show ((n : Int) + (t.length : Int)) + 1 - 1 = ((n + t.length : Nat) : Int) by omega], rfl, by omega, by rw [e2, g3]; rfl⟩
      | false =>
        rw [hb] at e2
        exact ⟨n + t.length + 1, _, _, _, by simp only [hb, Bool.false_eq_true, if_false]; rw [show ((n : Int) + (t.length : Int)) + 1 - 0 = ((n + t.length + 1 : Nat) : Int) by omega], rfl, by omega, by rw [e2, g4]; rfl⟩
  · obtain ⟨n, x, y, z, rfl, rfl, hn, he⟩ := hI
    try dsimp only
    rw [wt_cons]
    simp only [ev, evs, evo, evT, evto, evF, evQ, evI, ex, wr_bind, wr_ok, wr_exc, wt_o, wt_seq, wt_turn, wt_next, wt_brk, wt_cont, wt_ret, wt_exc, Pl.R.bind_ok, Pl.R.o_ok, Pl.R.bind_exc, Pl.R.o_exc, List.getElem?_cons_zero, List.getElem?_cons_succ, List.set_cons_zero, List.set_cons_succ]
    rw [he, List.drop_length]
    exact frz_cl rfl
end
end Pl

set_option maxHeartbeats 4000000
/-! Products: drawn ones. -/
namespace Pl
open PySem L2
section
variable {T : Tab} {G : Nat → Option D} {C : Nat → List D → Sto → R D}
theorem sort_ones {ls : List Nat} (hn : ls.Nodup) : ∃ sl : List Nat, sortL (ls.map fun c => [c]) = sl.map (fun c => [c]) ∧ sl.Perm ls ∧ sl.Pairwise (· < ·) := by
  have hp : (sortL (ls.map fun c => [c])).Perm (ls.map fun c => [c]) := List.mergeSort_perm _ _
  have w2 : (sortL (ls.map fun c => [c])).Pairwise (· ≤ ·) := by
    have e : (fun a b : List Nat => !Spec.ltCps b a) = fun a b => decide (a ≤ b) := by funext a b; exact lt_le a b
    unfold sortL
    rw [e]
    have := List.pairwise_mergeSort (le := fun a b : List Nat => decide (a ≤ b)) (fun a b c h1 h2 => by
      have h1 := of_decide_eq_true h1
      have h2 := of_decide_eq_true h2
      exact decide_eq_true (List.le_trans h1 h2)) (fun a b => by
      rcases List.le_total a b with h | h
      · rw [decide_eq_true h]; rfl
      · rw [decide_eq_true h, Bool.or_true]) (ls.map fun c => [c])
    exact this.imp fun h => of_decide_eq_true h
  generalize sortL (ls.map fun c => [c]) = L at hp w2
  have h1 : L = (L.map fun x => x.headD 0).map fun c => [c] := by
    rw [List.map_map]
    have : ∀ x ∈ L, ((fun c => [c]) ∘ fun x : List Nat => x.headD 0) x = x := fun x hx => by
      obtain ⟨c, _, rfl⟩ := List.mem_map.mp (hp.mem_iff.mp hx)
      rfl
    rw [List.map_congr_left this, List.map_id']
  have h2 : (L.map fun x => x.headD 0).Perm ls := by
    have := hp.map fun x : List Nat => x.headD 0
    rw [List.map_map] at this
    have e : ((fun x : List Nat => x.headD 0) ∘ fun c => [c]) = id := rfl
    rw [e, List.map_id] at this
    exact this
  refine ⟨_, h1, h2, ?_⟩
  have hnd : (L.map fun x => x.headD 0).Nodup := h2.nodup_iff.mpr hn
  rw [h1, List.pairwise_map] at w2
  have := w2.and hnd
  refine this.imp fun h => ?_
  obtain ⟨h1, h2⟩ := h
  have h3 : ¬ _ < _ := fun hc : _ < _ => List.not_le.mpr (List.cons_lt_cons_iff.mpr (.inl hc)) h1
  omega
/-- some of the letters, as drawn -/
theorem draw_sub {f : D → Sto → R (Option D)} {sl : List Nat} {B : Bg} {S : Sto} {P : D → Sto → Prop} {X : Xc → Sto → Prop} (hn : sl.length ≤ 1000) (hf : ∀ (c : Nat) (B : Bg), Wr (f (one c) (B.on S)) (fun o S' => ∃ B' : Bg, (o = none ∨ o = some (one c)) ∧ S' = B'.on S) no2)
    (h : ∀ (w : List Nat) (B' : Bg), w.Sublist sl → P (.str w) (B'.on S)) :
    Wr (lcL [] f (sl.map one) (B.on S)) (fun ds S' => Wr (match strsD (Sv.mk ds [] false).ds with
      | some xs => if (xs.map List.length).sum + xs.length * 0 ≤ lim then R.ok (D.str (joinL [] xs)) S' else .bad
      | none => .bad) P X) X := by
  refine lc_inv (fun i acc S' => ∃ (w : List Nat) (B' : Bg), acc = w.map one ∧ w.Sublist (sl.take i) ∧ S' = B'.on S) ⟨[], B, rfl, List.nil_sublist _, rfl⟩ (fun i d acc S' hd hI => ?_) (fun _ _ _ _ _ _ _ _ n hn => nomatch hn) fun acc S' hI => ?_
  · obtain ⟨w, B', rfl, hw, rfl⟩ := hI
    rw [List.getElem?_map] at hd
    cases e : sl[i]? with
    | none => rw [e] at hd; cases hd
    | some c =>
      rw [e] at hd
      cases hd
      have et : sl.take (i + 1) = sl.take i ++ [c] := by rw [List.take_add_one, e]; rfl
      refine (hf c B').mono (fun o S2 ⟨B2, h1, h3⟩ => ?_) fun _ _ z => z
      subst h3
      rcases h1 with rfl | rfl
      · exact ⟨w, B2, rfl, by rw [et]; exact hw.trans (List.sublist_append_left _ _), rfl⟩
      · exact ⟨w ++ [c], B2, by simp, by rw [et]; exact hw.append (List.Sublist.refl _), rfl⟩
  · obtain ⟨w, B', rfl, hw, rfl⟩ := hI
    rw [List.length_map, List.take_length] at hw
    have hs : strsD (w.map one) = some (w.map fun c => [c]) := strs_of w
    simp only [hs]
    have hl := hw.length_le
    rw [sum_one, if_pos (by show w.length + _ * 0 ≤ 100000; omega)]
    have := h w B' hw
    rw [← join_one w] at this
    exact this
def SpProduct (C : Nat → List D → Sto → R D) : Prop := ∀ (B : Bg) (ls : List Nat) (top : Int) (S : Sto) (P : D → Sto → Prop) (X : Xc → Sto → Prop), 0 < ls.length → ls.length ≤ 50 → ls.Nodup → Lett ls → 0 ≤ top → top < 900 → (∀ (p : List At) (B' : Bg), PrOk p → (p.length : Int) ≤ top → (∀ a ∈ p, ∀ c ∈ a.1, c ∈ ls) → P (dP p) (B'.on S)) → Wr (scp 2 false (C 134) [.ref 1, .fro (ls.map one), .int top] (B.on S)) P X
theorem product_ok (hT : T 134 = some f__law_product) {k : Nat} (hp : SpPull (run T G k)) (ho : SpOf (run T G k)) : SpProduct (run T G (k + 1)) := fun B ls top S P X l0 l1 hnd hlt t0 t1 h => by
  refine bag hT rfl (by show (closedL 2 _ && true) = true; rw [closedL_map fun _ => rfl] <;> rfl) ?_
  show Wt (exs _ _ f__law_product.body [some (.ref 1), some (.fro (ls.map one)), some (.int top), none, none, none, none, none] (B.on [])) _
  unfold f__law_product
  obtain ⟨sl, s1, s2, s3⟩ := sort_ones hnd
  rw [wt_cons]
  simp only [ev, evs, evo, evT, evto, evF, evQ, evI, ex, wr_bind, wr_ok, wr_exc, wt_o, wt_seq, wt_turn, wt_next, wt_brk, wt_cont, wt_ret, wt_exc, Pl.R.bind_ok, Pl.R.o_ok, Pl.R.bind_exc, Pl.R.o_exc, List.getElem?_cons_zero, List.getElem?_cons_succ, List.set_cons_zero, List.set_cons_succ, List.length_nil, Nat.zero_le, if_true]
  rw [wt_cons]
  simp only [ev, evs, evo, evT, evto, evF, evQ, evI, ex, wr_bind, wr_ok, wr_exc, wt_o, wt_seq, wt_turn, wt_next, wt_brk, wt_cont, wt_ret, wt_exc, Pl.R.bind_ok, Pl.R.o_ok, Pl.R.bind_exc, Pl.R.o_exc, List.getElem?_cons_zero, List.getElem?_cons_succ, List.set_cons_zero, List.set_cons_succ, v_add]
  refine hp B _ _ _ _ (by omega) (by omega) fun t B1 r0 r1 => ?_
  dsimp only
  rw [if_pos (by omega)]
  simp only [ev, evs, evo, evT, evto, evF, evQ, evI, ex, wr_bind, wr_ok, wr_exc, wt_o, wt_seq, wt_turn, wt_next, wt_brk, wt_cont, wt_ret, wt_exc, Pl.R.bind_ok, Pl.R.o_ok, Pl.R.bind_exc, Pl.R.o_exc, List.getElem?_cons_zero, List.getElem?_cons_succ, List.set_cons_zero, List.set_cons_succ]
  refine for_map (fun i ρ S' => ∃ (B : Bg) (p : List At) (x y z u : Option D), ρ = [some (.ref 1), some (.fro (ls.map one)), some (.int top), some (.ref 2), x, y, z, u] ∧ S' = B.on [.lst (p.map dAt)] ∧ p.length = i ∧ ∀ a ∈ p, AtOk a ∧ ∀ c ∈ a.1, c ∈ ls) ⟨B1, [], none, none, none, none, rfl, rfl, rfl, fun _ h => nomatch h⟩ (fun i a ρ S' hd hI => ?_) (fun ρ S' hI => ?_)
  · obtain ⟨B2, p, x, y, z, u, rfl, rfl, hl, hok⟩ := hI
    have hi := (List.getElem?_eq_some_iff.mp hd).1
    rw [List.length_range] at hi
    refine ⟨[some (.ref 1), some (.fro (ls.map one)), some (.int top), some (.ref 2), some (.int (a : Int)), y, z, u], rfl, ?_⟩
    rw [wt_cons]
    have hss : strsD (ls.map one) = some (ls.map fun c => [c]) := strs_of ls
    simp only [ev, evs, evo, evT, evto, evF, evQ, evI, ex, wr_bind, wr_ok, wr_exc, wt_o, wt_seq, wt_turn, wt_next, wt_brk, wt_cont, wt_ret, wt_exc, Pl.R.bind_ok, Pl.R.o_ok, Pl.R.bind_exc, Pl.R.o_exc, List.getElem?_cons_zero, List.getElem?_cons_succ, List.set_cons_zero, List.set_cons_succ, seqV, Bool.false_eq_true, if_false, hss, s1]
    rw [if_pos (by rw [List.length_map]; omega)]
    simp only [ev, evs, evo, evT, evto, evF, evQ, evI, ex, wr_bind, wr_ok, wr_exc, wt_o, wt_seq, wt_turn, wt_next, wt_brk, wt_cont, wt_ret, wt_exc, Pl.R.bind_ok, Pl.R.o_ok, Pl.R.bind_exc, Pl.R.o_exc, List.getElem?_cons_zero, List.getElem?_cons_succ, List.set_cons_zero, List.set_cons_succ]
    rw [show (List.map D.str (List.map (fun c => [c]) sl)) = sl.map one by rw [List.map_map]; rfl]
    have hsl : sl.length = ls.length := s2.length_eq
    rw [if_pos (by rw [List.length_map]; show _ ≤ 100000; omega)]
    simp only [List.length_nil]
    refine draw_sub (by omega) (fun c B => ?_) fun w B3 hw => ?_
    · simp only [List.map_cons, List.map_nil, wipeD, bindTg, ev, evs, evo, evT, evto, evF, evQ, evI, ex, wr_bind, wr_ok, wr_exc, wt_o, wt_seq, wt_turn, wt_next, wt_brk, wt_cont, wt_ret, wt_exc, Pl.R.bind_ok, Pl.R.o_ok, Pl.R.bind_exc, Pl.R.o_exc, List.getElem?_cons_zero, List.getElem?_cons_succ, List.set_cons_zero, List.set_cons_succ, evto, one]
      refine hp B _ _ _ _ (by decide) (by decide) fun r B' _ _ => ?_
      simp only [ev, evs, evo, evT, evto, evF, evQ, evI, ex, wr_bind, wr_ok, wr_exc, wt_o, wt_seq, wt_turn, wt_next, wt_brk, wt_cont, wt_ret, wt_exc, Pl.R.bind_ok, Pl.R.o_ok, Pl.R.bind_exc, Pl.R.o_exc, List.getElem?_cons_zero, List.getElem?_cons_succ, List.set_cons_zero, List.set_cons_succ, c_eqi]
      by_cases hr : r = 0
      · simp only [hr, decide_true, ev, evs, evo, evT, evto, evF, evQ, evI, ex, wr_bind, wr_ok, wr_exc, wt_o, wt_seq, wt_turn, wt_next, wt_brk, wt_cont, wt_ret, wt_exc, Pl.R.bind_ok, Pl.R.o_ok, Pl.R.bind_exc, Pl.R.o_exc, List.getElem?_cons_zero, List.getElem?_cons_succ, List.set_cons_zero, List.set_cons_succ]
        exact ⟨B', .inr (by first | rfl | trivial), rfl⟩
      · simp only [hr, decide_false, ev, evs, evo, evT, evto, evF, evQ, evI, ex, wr_bind, wr_ok, wr_exc, wt_o, wt_seq, wt_turn, wt_next, wt_brk, wt_cont, wt_ret, wt_exc, Pl.R.bind_ok, Pl.R.o_ok, Pl.R.bind_exc, Pl.R.o_exc, List.getElem?_cons_zero, List.getElem?_cons_succ, List.set_cons_zero, List.set_cons_succ]
        exact ⟨B', .inl (by first | rfl | trivial), rfl⟩
    have hwu : w.Pairwise (· < ·) := s3.sublist hw
    have hwl : ∀ c ∈ w, c ∈ ls := fun c hc => s2.mem_iff.mp (hw.subset hc)
    have hwL : Lett w := fun c hc => hlt c (hwl c hc)
    have hwn : w.length ≤ 100 := by have := hw.length_le; omega
    rw [wt_cons]
    simp only [ev, evs, evo, evT, evto, evF, evQ, evI, ex, wr_bind, wr_ok, wr_exc, wt_o, wt_seq, wt_turn, wt_next, wt_brk, wt_cont, wt_ret, wt_exc, Pl.R.bind_ok, Pl.R.o_ok, Pl.R.bind_exc, Pl.R.o_exc, List.getElem?_cons_zero, List.getElem?_cons_succ, List.set_cons_zero, List.set_cons_succ]
    have fin : ∀ (m : Bool) (at_ : At) (B4 : Bg), AtOk at_ → (∀ c ∈ at_.1, c ∈ ls) → ∃ (B : Bg) (q : List At) (x y z v : Option D), [some (D.ref 1), some (.fro (ls.map one)), some (.int top), some (.ref 2), some (.int (a : Int)), some (.str w), some (.bl m), u] = [some (D.ref 1), some (.fro (ls.map one)), some (.int top), some (.ref 2), x, y, z, v] ∧ B4.on [.lst (p.map dAt ++ [dAt at_])] = B.on [.lst (q.map dAt)] ∧ q.length = i + 1 ∧ ∀ a ∈ q, AtOk a ∧ ∀ c ∈ a.1, c ∈ ls := fun m at_ B4 h1 h2 =>
      ⟨B4, p ++ [at_], _, _, _, u, rfl, by rw [List.map_append]; rfl, by rw [List.length_append, hl]; rfl, fun b hb => by
        rcases List.mem_append.mp hb with hb | hb
        · exact hok b hb
        · rw [List.mem_singleton.mp hb]; exact ⟨h1, h2⟩⟩
    have hg : ∀ B : Bg, (B.on [.lst (p.map dAt)])[2]? = some (.lst (p.map dAt)) := fun _ => rfl
    have hst : ∀ (B : Bg) (x : Ob), (B.on [.lst (p.map dAt)]).set 2 x = B.on [x] := fun _ _ => rfl
    by_cases hw0 : w = []
    · subst hw0
      rw [ne_no (a := .str []) rfl (n := 5) (fun c hc => nomatch hc) (by decide)]
      simp only [ev, evs, evo, evT, evto, evF, evQ, evI, ex, wr_bind, wr_ok, wr_exc, wt_o, wt_seq, wt_turn, wt_next, wt_brk, wt_cont, wt_ret, wt_exc, Pl.R.bind_ok, Pl.R.o_ok, Pl.R.bind_exc, Pl.R.o_exc, List.getElem?_cons_zero, List.getElem?_cons_succ, List.set_cons_zero, List.set_cons_succ, truV]
      rw [wt_cons]
      simp only [ev, evs, evo, evT, evto, evF, evQ, evI, ex, wr_bind, wr_ok, wr_exc, wt_o, wt_seq, wt_turn, wt_next, wt_brk, wt_cont, wt_ret, wt_exc, Pl.R.bind_ok, Pl.R.o_ok, Pl.R.bind_exc, Pl.R.o_exc, List.getElem?_cons_zero, List.getElem?_cons_succ, List.set_cons_zero, List.set_cons_succ, truV, hg]
      refine ho.map (e := one) l0 (by omega) (fun _ => rfl) fun c B5 hc => ?_
      simp only [ev, evs, evo, evT, evto, evF, evQ, evI, ex, wr_bind, wr_ok, wr_exc, wt_o, wt_seq, wt_turn, wt_next, wt_brk, wt_cont, wt_ret, wt_exc, Pl.R.bind_ok, Pl.R.o_ok, Pl.R.bind_exc, Pl.R.o_exc, List.getElem?_cons_zero, List.getElem?_cons_succ, List.set_cons_zero, List.set_cons_succ, hg, one]
      rw [if_pos (by show 2 ≤ 100000; omega)]
      simp only [ev, evs, evo, evT, evto, evF, evQ, evI, ex, wr_bind, wr_ok, wr_exc, wt_o, wt_seq, wt_turn, wt_next, wt_brk, wt_cont, wt_ret, wt_exc, Pl.R.bind_ok, Pl.R.o_ok, Pl.R.bind_exc, Pl.R.o_exc, List.getElem?_cons_zero, List.getElem?_cons_succ, List.set_cons_zero, List.set_cons_succ, hg]
      rw [if_pos (by rw [List.length_map]; show _ < 100000; omega)]
      simp only [ev, evs, evo, evT, evto, evF, evQ, evI, ex, wr_bind, wr_ok, wr_exc, wt_o, wt_seq, wt_turn, wt_next, wt_brk, wt_cont, wt_ret, wt_exc, Pl.R.bind_ok, Pl.R.o_ok, Pl.R.bind_exc, Pl.R.o_exc, List.getElem?_cons_zero, List.getElem?_cons_succ, List.set_cons_zero, List.set_cons_succ, hst]
      rw [wt_nil]
      obtain ⟨B6, q6, x6, y6, z6, u6, e1, e2, e3, e4⟩ := fin false ([c], false) B5 ⟨by simp, List.pairwise_singleton _ _, fun x hx => by rw [List.mem_singleton.mp hx]; exact hlt c hc, fun _ => rfl, by show 1 ≤ 100; omega⟩ fun x hx => by rw [List.mem_singleton.mp hx]; exact hc
      exact ⟨B6, q6, x6, y6, z6, u6, e1, e2, e3, e4⟩
    · rw [ne_yes (a := .str w) (b := .str []) (by intro e; exact hw0 (by simpa using e)) (dv_str hwL) (show dv 5 (.str []) from fun c hc => nomatch hc) (by decide)]
      simp only [ev, evs, evo, evT, evto, evF, evQ, evI, ex, wr_bind, wr_ok, wr_exc, wt_o, wt_seq, wt_turn, wt_next, wt_brk, wt_cont, wt_ret, wt_exc, Pl.R.bind_ok, Pl.R.o_ok, Pl.R.bind_exc, Pl.R.o_exc, List.getElem?_cons_zero, List.getElem?_cons_succ, List.set_cons_zero, List.set_cons_succ, truV]
      refine hp B3 _ _ _ _ (by decide) (by decide) fun r B4 _ _ => ?_
      simp only [ev, evs, evo, evT, evto, evF, evQ, evI, ex, wr_bind, wr_ok, wr_exc, wt_o, wt_seq, wt_turn, wt_next, wt_brk, wt_cont, wt_ret, wt_exc, Pl.R.bind_ok, Pl.R.o_ok, Pl.R.bind_exc, Pl.R.o_exc, List.getElem?_cons_zero, List.getElem?_cons_succ, List.set_cons_zero, List.set_cons_succ, c_gt]
      by_cases hr : 0 < r
      · simp only [hr, decide_true, ev, evs, evo, evT, evto, evF, evQ, evI, ex, wr_bind, wr_ok, wr_exc, wt_o, wt_seq, wt_turn, wt_next, wt_brk, wt_cont, wt_ret, wt_exc, Pl.R.bind_ok, Pl.R.o_ok, Pl.R.bind_exc, Pl.R.o_exc, List.getElem?_cons_zero, List.getElem?_cons_succ, List.set_cons_zero, List.set_cons_succ]
        rw [wt_cons]
        simp only [ev, evs, evo, evT, evto, evF, evQ, evI, ex, wr_bind, wr_ok, wr_exc, wt_o, wt_seq, wt_turn, wt_next, wt_brk, wt_cont, wt_ret, wt_exc, Pl.R.bind_ok, Pl.R.o_ok, Pl.R.bind_exc, Pl.R.o_exc, List.getElem?_cons_zero, List.getElem?_cons_succ, List.set_cons_zero, List.set_cons_succ, truV, hg]
        rw [if_pos (by show 2 ≤ 100000; omega)]
        simp only [ev, evs, evo, evT, evto, evF, evQ, evI, ex, wr_bind, wr_ok, wr_exc, wt_o, wt_seq, wt_turn, wt_next, wt_brk, wt_cont, wt_ret, wt_exc, Pl.R.bind_ok, Pl.R.o_ok, Pl.R.bind_exc, Pl.R.o_exc, List.getElem?_cons_zero, List.getElem?_cons_succ, List.set_cons_zero, List.set_cons_succ, hg]
        rw [if_pos (by rw [List.length_map]; show _ < 100000; omega)]
        simp only [ev, evs, evo, evT, evto, evF, evQ, evI, ex, wr_bind, wr_ok, wr_exc, wt_o, wt_seq, wt_turn, wt_next, wt_brk, wt_cont, wt_ret, wt_exc, Pl.R.bind_ok, Pl.R.o_ok, Pl.R.bind_exc, Pl.R.o_exc, List.getElem?_cons_zero, List.getElem?_cons_succ, List.set_cons_zero, List.set_cons_succ, hst]
        rw [wt_nil]
        obtain ⟨B6, q6, x6, y6, z6, u6, e1, e2, e3, e4⟩ := fin true (w, true) B4 ⟨hw0, hwu, hwL, (fun z => nomatch z), hwn⟩ hwl
        exact ⟨B6, q6, x6, y6, z6, u6, e1, e2, e3, e4⟩
      · simp only [hr, decide_false, ev, evs, evo, evT, evto, evF, evQ, evI, ex, wr_bind, wr_ok, wr_exc, wt_o, wt_seq, wt_turn, wt_next, wt_brk, wt_cont, wt_ret, wt_exc, Pl.R.bind_ok, Pl.R.o_ok, Pl.R.bind_exc, Pl.R.o_exc, List.getElem?_cons_zero, List.getElem?_cons_succ, List.set_cons_zero, List.set_cons_succ]
        rw [wt_cons]
        simp only [ev, evs, evo, evT, evto, evF, evQ, evI, ex, wr_bind, wr_ok, wr_exc, wt_o, wt_seq, wt_turn, wt_next, wt_brk, wt_cont, wt_ret, wt_exc, Pl.R.bind_ok, Pl.R.o_ok, Pl.R.bind_exc, Pl.R.o_exc, List.getElem?_cons_zero, List.getElem?_cons_succ, List.set_cons_zero, List.set_cons_succ, truV, hg]
        refine ho.map (e := one) l0 (by omega) (fun _ => rfl) fun c B5 hc => ?_
        simp only [ev, evs, evo, evT, evto, evF, evQ, evI, ex, wr_bind, wr_ok, wr_exc, wt_o, wt_seq, wt_turn, wt_next, wt_brk, wt_cont, wt_ret, wt_exc, Pl.R.bind_ok, Pl.R.o_ok, Pl.R.bind_exc, Pl.R.o_exc, List.getElem?_cons_zero, List.getElem?_cons_succ, List.set_cons_zero, List.set_cons_succ, hg, one]
        rw [if_pos (by show 2 ≤ 100000; omega)]
        simp only [ev, evs, evo, evT, evto, evF, evQ, evI, ex, wr_bind, wr_ok, wr_exc, wt_o, wt_seq, wt_turn, wt_next, wt_brk, wt_cont, wt_ret, wt_exc, Pl.R.bind_ok, Pl.R.o_ok, Pl.R.bind_exc, Pl.R.o_exc, List.getElem?_cons_zero, List.getElem?_cons_succ, List.set_cons_zero, List.set_cons_succ, hg]
        rw [if_pos (by rw [List.length_map]; show _ < 100000; omega)]
        simp only [ev, evs, evo, evT, evto, evF, evQ, evI, ex, wr_bind, wr_ok, wr_exc, wt_o, wt_seq, wt_turn, wt_next, wt_brk, wt_cont, wt_ret, wt_exc, Pl.R.bind_ok, Pl.R.o_ok, Pl.R.bind_exc, Pl.R.o_exc, List.getElem?_cons_zero, List.getElem?_cons_succ, List.set_cons_zero, List.set_cons_succ, hst]
        rw [wt_nil]
        obtain ⟨B6, q6, x6, y6, z6, u6, e1, e2, e3, e4⟩ := fin false ([c], false) B5 ⟨by simp, List.pairwise_singleton _ _, fun x hx => by rw [List.mem_singleton.mp hx]; exact hlt c hc, fun _ => rfl, by show 1 ≤ 100; omega⟩ fun x hx => by rw [List.mem_singleton.mp hx]; exact hc
        exact ⟨B6, q6, x6, y6, z6, u6, e1, e2, e3, e4⟩
  · obtain ⟨B2, p, x, y, z, u, rfl, rfl, hl, hok⟩ := hI
    try dsimp only
    rw [List.length_range] at hl
    rw [wt_cons]
    simp only [ev, evs, evo, evT, evto, evF, evQ, evI, ex, wr_bind, wr_ok, wr_exc, wt_o, wt_seq, wt_turn, wt_next, wt_brk, wt_cont, wt_ret, wt_exc, Pl.R.bind_ok, Pl.R.o_ok, Pl.R.bind_exc, Pl.R.o_exc, List.getElem?_cons_zero, List.getElem?_cons_succ, List.set_cons_zero, List.set_cons_succ]
    refine ⟨B2, [.lst (p.map dAt)], _, rfl, frz_cl (closedL_map fun _ => rfl), ?_⟩
    exact h p B2 ⟨by omega, fun a ha => (hok a ha).1⟩ (by omega) fun a ha => (hok a ha).2
def SpLWithin (C : Nat → List D → Sto → R D) : Prop := ∀ (s g : List Nat) (S : Sto), s.length ≤ 100000 → tOk s → scp 0 false (C 11) [.str s, .str g] S = .ok (.bl (s.isSublist g)) S
theorem lwithin_ok (hT : T 11 = some f__law_within) (k : Nat) : SpLWithin (run T G (k + 1)) := fun s g S hs ht => by
  refine pur hT rfl rfl ?_ S
  show Wt (exs _ _ f__law_within.body [some (.str s), some (.str g), none, none] []) _
  unfold f__law_within
  rw [wt_cons]
  simp only [ev, evs, evo, evT, evto, evF, evQ, evI, ex, wr_bind, wr_ok, wr_exc, wt_o, wt_seq, wt_turn, wt_next, wt_brk, wt_cont, wt_ret, wt_exc, Pl.R.bind_ok, Pl.R.o_ok, Pl.R.bind_exc, Pl.R.o_exc, List.getElem?_cons_zero, List.getElem?_cons_succ, List.set_cons_zero, List.set_cons_succ]
  rw [if_pos (by exact hs)]
  simp only [ev, evs, evo, evT, evto, evF, evQ, evI, ex, wr_bind, wr_ok, wr_exc, wt_o, wt_seq, wt_turn, wt_next, wt_brk, wt_cont, wt_ret, wt_exc, Pl.R.bind_ok, Pl.R.o_ok, Pl.R.bind_exc, Pl.R.o_exc, List.getElem?_cons_zero, List.getElem?_cons_succ, List.set_cons_zero, List.set_cons_succ]
  rw [wt_cons]
  simp only [ev, evs, evo, evT, evto, evF, evQ, evI, ex, wr_bind, wr_ok, wr_exc, wt_o, wt_seq, wt_turn, wt_next, wt_brk, wt_cont, wt_ret, wt_exc, Pl.R.bind_ok, Pl.R.o_ok, Pl.R.bind_exc, Pl.R.o_exc, List.getElem?_cons_zero, List.getElem?_cons_succ, List.set_cons_zero, List.set_cons_succ]
  refine for_map (fun i ρ S' => ∃ (w : List Nat) (x : Option D), ρ = [some (.str s), some (.str g), some (.ref 0), x] ∧ S' = [.lst (w.map one)] ∧ (∀ c ∈ w, c ∈ s) ∧ s.isSublist g = w.isSublist (g.drop i)) ⟨s, none, rfl, rfl, fun c h => h, by rw [List.drop_zero]⟩ (fun i c ρ S' hd hI => ?_) (fun ρ S' hI => ?_)
  · obtain ⟨w, x, rfl, rfl, hw, he⟩ := hI
    refine ⟨[some (.str s), some (.str g), some (.ref 0), some (one c)], rfl, ?_⟩
    have hlt := (List.getElem?_eq_some_iff.mp hd).1
    have hdrop : g.drop i = c :: g.drop (i + 1) := by
      rw [List.drop_eq_getElem_cons hlt]
      rw [List.getElem?_eq_getElem hlt] at hd
      rw [Option.some.inj hd]
    rw [hdrop] at he
    have hdv : ∀ x ∈ w.map one, dv 5 x := fun x hx => by
      obtain ⟨d, hd, rfl⟩ := List.mem_map.mp hx
      exact dv_one (ht d (hw d hd))
    rw [wt_cons]
    simp only [ev, evs, evo, evT, evto, evF, evQ, evI, ex, wr_bind, wr_ok, wr_exc, wt_o, wt_seq, wt_turn, wt_next, wt_brk, wt_cont, wt_ret, wt_exc, Pl.R.bind_ok, Pl.R.o_ok, Pl.R.bind_exc, Pl.R.o_exc, List.getElem?_cons_zero, List.getElem?_cons_succ, List.set_cons_zero, List.set_cons_succ, List.length_nil, Nat.zero_le, if_true]
    rw [ne_hd (S := [.lst (w.map one)]) rfl hdv]
    cases w with
    | nil =>
      simp only [List.map_nil, List.isEmpty_nil, Bool.not_true, ev, evs, evo, evT, evto, evF, evQ, evI, ex, wr_bind, wr_ok, wr_exc, wt_o, wt_seq, wt_turn, wt_next, wt_brk, wt_cont, wt_ret, wt_exc, Pl.R.bind_ok, Pl.R.o_ok, Pl.R.bind_exc, Pl.R.o_exc, List.getElem?_cons_zero, List.getElem?_cons_succ, List.set_cons_zero, List.set_cons_succ]
      rw [wt_nil]
      exact ⟨[], some (one c), rfl, rfl, hw, by rw [he]; simp [List.isSublist]⟩
    | cons d w =>
      simp only [List.map_cons, List.isEmpty_cons, Bool.not_false, ev, evs, evo, evT, evto, evF, evQ, evI, ex, wr_bind, wr_ok, wr_exc, wt_o, wt_seq, wt_turn, wt_next, wt_brk, wt_cont, wt_ret, wt_exc, Pl.R.bind_ok, Pl.R.o_ok, Pl.R.bind_exc, Pl.R.o_exc, List.getElem?_cons_zero, List.getElem?_cons_succ, List.set_cons_zero, List.set_cons_succ]
      rw [show idxV (.ref 0) (.int 0) [.lst (one d :: w.map one)] = .ok (one d) [.lst (one d :: w.map one)] from idxV_lst rfl (atI_go (by decide) rfl)]
      simp only [ev, evs, evo, evT, evto, evF, evQ, evI, ex, wr_bind, wr_ok, wr_exc, wt_o, wt_seq, wt_turn, wt_next, wt_brk, wt_cont, wt_ret, wt_exc, Pl.R.bind_ok, Pl.R.o_ok, Pl.R.bind_exc, Pl.R.o_exc, List.getElem?_cons_zero, List.getElem?_cons_succ, List.set_cons_zero, List.set_cons_succ]
      rw [show cmpV .eq (one d) (one c) [.lst (one d :: w.map one)] = .ok (.bl (decide ([d] = [c]))) [.lst (one d :: w.map one)] from c_eqs]
      by_cases e : d = c
      · subst e
        simp only [decide_true, ev, evs, evo, evT, evto, evF, evQ, evI, ex, wr_bind, wr_ok, wr_exc, wt_o, wt_seq, wt_turn, wt_next, wt_brk, wt_cont, wt_ret, wt_exc, Pl.R.bind_ok, Pl.R.o_ok, Pl.R.bind_exc, Pl.R.o_exc, List.getElem?_cons_zero, List.getElem?_cons_succ, List.set_cons_zero, List.set_cons_succ]
        rw [wt_cons]
        simp only [ev, evs, evo, evT, evto, evF, evQ, evI, ex, wr_bind, wr_ok, wr_exc, wt_o, wt_seq, wt_turn, wt_next, wt_brk, wt_cont, wt_ret, wt_exc, Pl.R.bind_ok, Pl.R.o_ok, Pl.R.bind_exc, Pl.R.o_exc, List.getElem?_cons_zero, List.getElem?_cons_succ, List.set_cons_zero, List.set_cons_succ, lst_pop0 (S := [.lst (one d :: w.map one)]) (n := 0) (d := one d) (ds := w.map one) rfl]
        rw [wt_nil]
        exact ⟨w, some (one d), rfl, rfl, fun c h => hw c (List.mem_cons_of_mem _ h), by rw [he]; simp [List.isSublist]⟩
      · have e2 : decide ([d] = [c]) = false := decide_eq_false (by simpa using e)
        rw [e2]
        simp only [ev, evs, evo, evT, evto, evF, evQ, evI, ex, wr_bind, wr_ok, wr_exc, wt_o, wt_seq, wt_turn, wt_next, wt_brk, wt_cont, wt_ret, wt_exc, Pl.R.bind_ok, Pl.R.o_ok, Pl.R.bind_exc, Pl.R.o_exc, List.getElem?_cons_zero, List.getElem?_cons_succ, List.set_cons_zero, List.set_cons_succ]
        rw [wt_nil]
        refine ⟨d :: w, some (one c), rfl, rfl, hw, ?_⟩
        rw [he]
        have e3 : (d == c) = false := by simpa using e
        simp [List.isSublist, e3]
  · obtain ⟨w, x, rfl, rfl, hw, he⟩ := hI
    have hdv : ∀ x ∈ w.map one, dv 5 x := fun x hx => by
      obtain ⟨d, hd, rfl⟩ := List.mem_map.mp hx
      exact dv_one (ht d (hw d hd))
    try dsimp only
    rw [wt_cons]
    simp only [ev, evs, evo, evT, evto, evF, evQ, evI, ex, wr_bind, wr_ok, wr_exc, wt_o, wt_seq, wt_turn, wt_next, wt_brk, wt_cont, wt_ret, wt_exc, Pl.R.bind_ok, Pl.R.o_ok, Pl.R.bind_exc, Pl.R.o_exc, List.getElem?_cons_zero, List.getElem?_cons_succ, List.set_cons_zero, List.set_cons_succ, List.length_nil, Nat.zero_le, if_true]
    rw [eq_hd (S := [.lst (w.map one)]) rfl hdv]
    simp only [ev, evs, evo, evT, evto, evF, evQ, evI, ex, wr_bind, wr_ok, wr_exc, wt_o, wt_seq, wt_turn, wt_next, wt_brk, wt_cont, wt_ret, wt_exc, Pl.R.bind_ok, Pl.R.o_ok, Pl.R.bind_exc, Pl.R.o_exc, List.getElem?_cons_zero, List.getElem?_cons_succ, List.set_cons_zero, List.set_cons_succ]
    rw [List.drop_length] at he
    have : (w.map one).isEmpty = s.isSublist g := by
      rw [he]
      cases w <;> simp [List.isSublist]
    rw [this]
    exact frz_cl rfl
def bys4 : List Int := [1, 3, 5, 7]
theorem bys4_bys {b : Int} (h : b ∈ bys4) : b ∈ bys := by
  simp only [bys4, List.mem_cons, List.not_mem_nil, or_false] at h
  rcases h with rfl | rfl | rfl | rfl <;> decide
def SpSix (C : Nat → List D → Sto → R D) : Prop := ∀ (B : Bg) (S : Sto) (P : D → Sto → Prop) (X : Xc → Sto → Prop), (∀ (f b : Int) (B' : Bg), b ∈ bys → P (.fro (((List.range 6).map (lx f b)).map one)) (B'.on S)) → Wr (scp 2 false (C 137) [.ref 1] (B.on S)) P X
theorem six_ok (hT : T 137 = some f__law_six) {k : Nat} (hp : SpPull (run T G k)) : SpSix (run T G (k + 1)) := fun B S P X h => by
  refine bag hT rfl rfl ?_
  show Wt (exs _ _ f__law_six.body [some (.ref 1), none, none, none, none] (B.on [])) _
  unfold f__law_six
  rw [wt_cons]
  simp only [ev, evs, evo, evT, evto, evF, evQ, evI, ex, wr_bind, wr_ok, wr_exc, wt_o, wt_seq, wt_turn, wt_next, wt_brk, wt_cont, wt_ret, wt_exc, Pl.R.bind_ok, Pl.R.o_ok, Pl.R.bind_exc, Pl.R.o_exc, List.getElem?_cons_zero, List.getElem?_cons_succ, List.set_cons_zero, List.set_cons_succ]
  rw [wt_cons]
  simp only [ev, evs, evo, evT, evto, evF, evQ, evI, ex, wr_bind, wr_ok, wr_exc, wt_o, wt_seq, wt_turn, wt_next, wt_brk, wt_cont, wt_ret, wt_exc, Pl.R.bind_ok, Pl.R.o_ok, Pl.R.bind_exc, Pl.R.o_exc, List.getElem?_cons_zero, List.getElem?_cons_succ, List.set_cons_zero, List.set_cons_succ]
  refine hp B _ _ _ _ (by decide) (by decide) fun f B1 f0 f1 => ?_
  simp only [ev, evs, evo, evT, evto, evF, evQ, evI, ex, wr_bind, wr_ok, wr_exc, wt_o, wt_seq, wt_turn, wt_next, wt_brk, wt_cont, wt_ret, wt_exc, Pl.R.bind_ok, Pl.R.o_ok, Pl.R.bind_exc, Pl.R.o_exc, List.getElem?_cons_zero, List.getElem?_cons_succ, List.set_cons_zero, List.set_cons_succ, List.length_cons, List.length_nil]
  rw [if_pos (by decide)]
  simp only [ev, evs, evo, evT, evto, evF, evQ, evI, ex, wr_bind, wr_ok, wr_exc, wt_o, wt_seq, wt_turn, wt_next, wt_brk, wt_cont, wt_ret, wt_exc, Pl.R.bind_ok, Pl.R.o_ok, Pl.R.bind_exc, Pl.R.o_exc, List.getElem?_cons_zero, List.getElem?_cons_succ, List.set_cons_zero, List.set_cons_succ]
  refine hp B1 _ _ _ _ (by decide) (by decide) fun r B2 r0 r1 => ?_
  obtain ⟨d, q1, q2⟩ := atI_in (xs := [D.int 1, .int 3, .int 5, .int 7]) r0 (by simpa using r1)
  have hb : ∃ b ∈ bys4, d = .int b := by
    have := List.mem_of_getElem? q2
    simp only [List.mem_cons, List.not_mem_nil, or_false] at this
    rcases this with rfl | rfl | rfl | rfl <;> exact ⟨_, by decide, rfl⟩
  obtain ⟨b, hb, rfl⟩ := hb
  have hb := bys4_bys hb
  have hb2 := bys_abs hb
  have q3 : ∀ S, idxV (.fro [D.int 1, .int 3, .int 5, .int 7]) (.int r) S = .ok (.int b) S := fun S => idxV_fro q1
  simp only [ev, evs, evo, evT, evto, evF, evQ, evI, ex, wr_bind, wr_ok, wr_exc, wt_o, wt_seq, wt_turn, wt_next, wt_brk, wt_cont, wt_ret, wt_exc, Pl.R.bind_ok, Pl.R.o_ok, Pl.R.bind_exc, Pl.R.o_exc, List.getElem?_cons_zero, List.getElem?_cons_succ, List.set_cons_zero, List.set_cons_succ, q3]
  rw [if_pos (by decide)]
  simp only [ev, evs, evo, evT, evto, evF, evQ, evI, ex, wr_bind, wr_ok, wr_exc, wt_o, wt_seq, wt_turn, wt_next, wt_brk, wt_cont, wt_ret, wt_exc, Pl.R.bind_ok, Pl.R.o_ok, Pl.R.bind_exc, Pl.R.o_exc, List.getElem?_cons_zero, List.getElem?_cons_succ, List.set_cons_zero, List.set_cons_succ, bindTg, setAll]
  rw [wt_cons]
  simp only [ev, evs, evo, evT, evto, evF, evQ, evI, ex, wr_bind, wr_ok, wr_exc, wt_o, wt_seq, wt_turn, wt_next, wt_brk, wt_cont, wt_ret, wt_exc, Pl.R.bind_ok, Pl.R.o_ok, Pl.R.bind_exc, Pl.R.o_exc, List.getElem?_cons_zero, List.getElem?_cons_succ, List.set_cons_zero, List.set_cons_succ]
  rw [if_pos (by decide)]
  simp only [ev, evs, evo, evT, evto, evF, evQ, evI, ex, wr_bind, wr_ok, wr_exc, wt_o, wt_seq, wt_turn, wt_next, wt_brk, wt_cont, wt_ret, wt_exc, Pl.R.bind_ok, Pl.R.o_ok, Pl.R.bind_exc, Pl.R.o_exc, List.getElem?_cons_zero, List.getElem?_cons_succ, List.set_cons_zero, List.set_cons_succ]
  rw [if_pos (by decide)]
  rw [lc_map (S := B2.on []) (e := fun k : Nat => D.int (k : Int)) (fun k => one (lx f b k)) (List.range (Int.toNat 6)) (fun k hk => ?_)]
  · simp only [ev, evs, evo, evT, evto, evF, evQ, evI, ex, wr_bind, wr_ok, wr_exc, wt_o, wt_seq, wt_turn, wt_next, wt_brk, wt_cont, wt_ret, wt_exc, Pl.R.bind_ok, Pl.R.o_ok, Pl.R.bind_exc, Pl.R.o_exc, List.getElem?_cons_zero, List.getElem?_cons_succ, List.set_cons_zero, List.set_cons_succ]
    refine ⟨B2, [], _, rfl, frz_cl (closedL_map fun _ => rfl), ?_⟩
    have := h f b B2 hb
    rw [List.map_map] at this
    exact this
  · have hk3 : k < 6 := List.mem_range.mp hk
    simp (disch := omega) only [List.map_cons, List.map_nil, wipeD, bindTg, ev, evs, evo, evT, evto, evF, evQ, evI, ex, wr_bind, wr_ok, wr_exc, wt_o, wt_seq, wt_turn, wt_next, wt_brk, wt_cont, wt_ret, wt_exc, Pl.R.bind_ok, Pl.R.o_ok, Pl.R.bind_exc, Pl.R.o_exc, List.getElem?_cons_zero, List.getElem?_cons_succ, List.set_cons_zero, List.set_cons_succ, v_mul, v_add, v_mod]
    rw [lx_idx]
    rfl
theorem lies_word : ∀ (g w : List Nat), lies (wP w) (wP g) = w.isSublist g
  | g, [] => by simp [wP, lies, List.isSublist]
  | [], c :: w => by
    rw [show lies (wP (c :: w)) (wP []) = false from lies_none rfl]
    simp [List.isSublist]
  | d :: g, c :: w => by
    have hf : fits [c] false ([d], false) = decide (c = d) := by simp [fits]
    have hs : seek [c] false (wP (d :: g)) = if c = d then ([d], false) :: wP g else seek [c] false (wP g) := by
      show seek [c] false (([d], false) :: wP g) = _
      rw [seek_cons, hf]
      by_cases e : c = d <;> simp [e]
    by_cases e : c = d
    · subst e
      rw [if_pos rfl] at hs
      rw [show lies (wP (c :: w)) (wP (c :: g)) = lies (wP w) (wP g) from lies_some (b := ([c], false)) hs, lies_word g w]
      simp [List.isSublist]
    · rw [if_neg e] at hs
      have h1 : lies (wP (c :: w)) (wP (d :: g)) = lies (wP (c :: w)) (wP g) := by
        show lies (([c], false) :: wP w) _ = lies (([c], false) :: wP w) _
        rw [lies, lies, hs]
      rw [h1, lies_word g (c :: w)]
      have e2 : (c == d) = false := by simpa using e
      simp [List.isSublist, e2]
theorem wP_ok {w : List Nat} (h : Lett w) (hl : w.length ≤ 1000) : PrOk (wP w) := ⟨by unfold wP; rw [List.length_map]; exact hl, fun a ha => by
  obtain ⟨c, hc, rfl⟩ := List.mem_map.mp ha
  exact ⟨by simp, List.pairwise_singleton _ _, fun x hx => by rw [List.mem_singleton.mp hx]; exact h c hc, fun _ => rfl, by show 1 ≤ 100; omega⟩⟩
theorem dat_P {p : List At} (h : p.length ≤ 100000) : dat 5 (dP p) := dat.tmap (n := 4) h fun a _ => ⟨by show 2 ≤ 100000; omega, fun x hx => by
  simp only [List.mem_cons, List.not_mem_nil, or_false] at hx
  rcases hx with rfl | rfl <;> exact trivial⟩
/-- a drawn row of unlike letters -/
structure LsOk (ls : List Nat) : Prop where
  lo : 0 < ls.length
  hi : ls.length ≤ 6
  nd : ls.Nodup
  lt : Lett ls
theorem lsOk {f b : Int} {n : Nat} (hb : b ∈ bys) (h0 : 0 < n) (h1 : n ≤ 6) : LsOk ((List.range n).map (lx f b)) := ⟨by simpa using h0, by simpa using h1, by
  rw [List.Nodup, List.pairwise_map]
  refine (List.nodup_range (n := n)).imp_of_mem fun ha hb' hne he => hne ?_
  have := List.mem_range.mp ha
  have := List.mem_range.mp hb'
  exact lx_inj hb (by omega) (by omega) he, fun x hx => by
  obtain ⟨k, _, rfl⟩ := List.mem_map.mp hx
  exact lx_in⟩
theorem LsOk.take {ls : List Nat} (h : LsOk ls) {n : Nat} (hn : 0 < n) : LsOk (ls.take n) := ⟨by have := h.lo; simp; omega, by have := h.hi; simp; omega, h.nd.sublist (List.take_sublist _ _), fun x hx => h.lt x (List.mem_of_mem_take hx)⟩
end
end Pl

set_option maxHeartbeats 4000000
/-! Products within products. -/
namespace Pl
open PySem L2
/-- inside: one other -/
def f_inside : Fn := ⟨2, 2, [
  .expr (.calls 0 false 128 [(.var 0)]),
  .expr (.calls 0 false 128 [(.var 1)]),
  .ret (.calls 0 false 108 [(.var 0), (.var 1)])]⟩
/-- _law_longest: _law_product_here _law_other _law_word_here _law_letters_here _law_many -/
def f__law_longest : Fn := ⟨2, 5, [
  .asg 2 (.cst (.str [])),
  .for_ [3, 4] true (.sq (.ex (.var 0))) [.asg 2 (.bin .add (.var 2) (.bin .mul (.var 3) (.bin .add (.cst (.int 1)) (.bin .mul (.len (.var 1)) (.intb (.var 4))))))],
  .ret (.var 2)]⟩
/-- _law_bent_atoms: _law_bag_here _law_letters_here _law_product_here _law_at _law_kind -/
def f__law_bent_atoms : Fn := ⟨3, 5, [
  .asg 3 (.calls 2 false 2 [(.var 0), (.bin .add (.len (.var 2)) (.cst (.int 1)))]),
  .asg 4 (.calls 2 false 2 [(.var 0), (.cst (.int 5))]),
  .if_ (.cmp .eq (.var 4) (.cst (.int 0))) [.ret (.bin .add (.bin .add (.sli (.var 2) none (some (.var 3))) (.calls 2 false 134 [(.var 0), (.var 1), (.cst (.int 1))])) (.sli (.var 2) (some (.var 3)) none))] [],
  .if_ (.cmp .eq (.var 4) (.cst (.int 1))) [.ret (.bin .add (.sli (.var 2) none (some (.var 3))) (.sli (.var 2) (some (.bin .add (.var 3) (.cst (.int 1)))) none))] [],
  .if_ (.and_ (.cmp .eq (.var 4) (.cst (.int 2))) (.cmp .lt (.var 3) (.len (.var 2)))) [.ret (.bin .add (.bin .add (.sli (.var 2) none (some (.var 3))) (.tup [(.tup [(.join (.cst (.str [])) (.fr (.sortT (.ex (.var 1))))), (.cst (.bl true))])])) (.sli (.var 2) (some (.bin .add (.var 3) (.cst (.int 1)))) none))] [],
  .ret (.ifx (.cmp .eq (.var 4) (.cst (.int 3))) (.calls 2 false 134 [(.var 0), (.var 1), (.cst (.int 4))]) (.revs (.var 2)))]⟩

section
variable {T : Tab} {G : Nat → Option D} {C : Nat → List D → Sto → R D}
/-! ### what a word of a product shows -/
theorem seek_skip {w : List Nat} {m : Bool} : ∀ {t q : List At}, (∀ a ∈ t, fits w m a = false) → seek w m (t ++ q) = seek w m q
  | [], q, _ => rfl
  | a :: t, q, h => by
    rw [List.cons_append, seek_cons, h a List.mem_cons_self]
    exact seek_skip fun b hb => h b (List.mem_cons_of_mem _ hb)
theorem seek_fit {w : List Nat} {m : Bool} {a : At} {q : List At} (h : fits w m a = true) : seek w m (a :: q) = a :: q := by rw [seek_cons, h]; rfl
def nxt (b : At) (r : List At) : List At := if b.2 then b :: r else r
theorem lies_go {a b : At} {one q r : List At} (h : seek a.1 a.2 q = b :: r) : lies (a :: one) q = lies one (nxt b r) := lies_some h
def con : List Nat → List At → Option (List At)
  | [], q => some q
  | c :: w, q => match seek [c] false q with
    | [] => none
    | b :: r => con w (nxt b r)
theorem con_none {c : Nat} {w : List Nat} {q : List At} (h : seek [c] false q = []) : con (c :: w) q = none := by simp only [con, h]
theorem con_some {c : Nat} {w : List Nat} {q r : List At} {b : At} (h : seek [c] false q = b :: r) : con (c :: w) q = con w (nxt b r) := by simp only [con, h]
theorem con_lies : ∀ (w : List Nat) (q : List At), lies (wP w) q = (con w q).isSome
  | [], q => rfl
  | c :: w, q => by
    show lies (([c], false) :: wP w) q = _
    cases h : seek [c] false q with
    | nil => rw [lies_none h, con_none h]; rfl
    | cons b r => rw [lies_go h, con_some h, con_lies w]
theorem con_app : ∀ (u v : List Nat) (q : List At), con (u ++ v) q = (con u q).bind (con v)
  | [], v, q => rfl
  | c :: u, v, q => by
    rw [List.cons_append]
    cases h : seek [c] false q with
    | nil => rw [con_none h, con_none h]; rfl
    | cons b r => rw [con_some h, con_some h, con_app u v]
theorem fits_one {c : Nat} {a : At} : fits [c] false a = decide (c ∈ a.1) := by simp [fits]
theorem fits_iff {w : List Nat} {a : At} : fits w true a = true ↔ (∀ c ∈ w, c ∈ a.1) ∧ a.2 = true := by simp [fits]
theorem unfit {c : Nat} {w : List Nat} {a : At} (hc : c ∈ w) (h : fits [c] false a = false) : fits w true a = false := by
  rw [Bool.eq_false_iff]
  intro z
  rw [fits_one, decide_eq_false_iff_not] at h
  exact h ((fits_iff.mp z).1 c hc)
/-- what a letter of w takes leaves where w fits -/
theorem seek_step {c : Nat} {w : List Nat} {q : List At} (hc : c ∈ w) : (seek [c] false q = [] → seek w true q = []) ∧ ∀ b r, seek [c] false q = b :: r → seek w true (nxt b r) = seek w true q := by
  rcases seek_split [c] false q with ⟨q1, q2⟩ | ⟨t, b, r, q1, q2, q3, q4⟩
  · refine ⟨fun _ => ?_, fun b r h => by rw [q1] at h; cases h⟩
    have := seek_skip (w := w) (m := true) (t := q) (q := []) fun a ha => unfit hc (q2 a ha)
    rw [List.append_nil] at this
    exact this
  · refine ⟨fun h => (by rw [q1] at h; cases h), fun b2 r2 h => ?_⟩
    rw [q1] at h
    cases h
    rw [q2, seek_skip fun a ha => unfit hc (q3 a ha)]
    unfold nxt
    cases hb : b.2 with
    | true => rfl
    | false =>
      rw [if_neg Bool.false_ne_true, seek_cons]
      have : fits w true b = false := by
        rw [Bool.eq_false_iff]
        intro z
        rw [(fits_iff.mp z).2] at hb
        cases hb
      rw [this]
      rfl
theorem con_seek {w : List Nat} : ∀ (u : List Nat) (q : List At), (∀ c ∈ u, c ∈ w) → (con u q = none → seek w true q = []) ∧ ∀ q', con u q = some q' → seek w true q' = seek w true q
  | [], q, _ => ⟨fun h => (by cases h), fun q' h => by cases h; rfl⟩
  | c :: u, q, hu => by
    have hs := seek_step (q := q) (hu c List.mem_cons_self)
    cases h : seek [c] false q with
    | nil => exact ⟨fun _ => hs.1 h, fun q' h2 => by rw [con_none h] at h2; cases h2⟩
    | cons b r =>
      have ih := con_seek u (nxt b r) fun c hc => hu c (List.mem_cons_of_mem _ hc)
      rw [con_some h]
      have e := hs.2 b r h
      exact ⟨fun h2 => by rw [← e]; exact ih.1 h2, fun q' h2 => by rw [← e]; exact ih.2 q' h2⟩
theorem nxt_len {b : At} {r : List At} : (nxt b r).length ≤ r.length + 1 := by unfold nxt; split <;> simp
theorem con_len : ∀ (u : List Nat) (q q' : List At), con u q = some q' → q'.length ≤ q.length ∧ (q'.length = q.length → q' = q ∧ (u ≠ [] → ∃ b r, q = b :: r ∧ b.2 = true ∧ ∀ c ∈ u, c ∈ b.1))
  | [], q, q', h => by cases h; exact ⟨Nat.le_refl _, fun _ => ⟨rfl, fun z => absurd rfl z⟩⟩
  | c :: u, q, q', h => by
    rcases seek_split [c] false q with ⟨q1, _⟩ | ⟨t, b, r, q1, q2, q3, q4⟩
    · rw [con_none q1] at h; cases h
    · rw [con_some q1] at h
      have ih := con_len u _ _ h
      have hl : (nxt b r).length ≤ r.length + 1 := nxt_len
      have hq : q.length = t.length + (r.length + 1) := by rw [q2]; simp
      refine ⟨by omega, fun e => ?_⟩
      have ht : t = [] := List.eq_nil_of_length_eq_zero (by omega)
      have hb : b.2 = true := by
        cases hb : b.2 with
        | true => rfl
        | false =>
          have : (nxt b r).length = r.length := by unfold nxt; rw [hb]; rfl
          omega
      have hn : nxt b r = b :: r := by unfold nxt; rw [if_pos hb]
      subst ht
      have hq2 : q = b :: r := q2
      rw [hn] at ih
      obtain ⟨e1, e2⟩ := ih.2 (by rw [e, hq2])
      refine ⟨by rw [e1, hq2], fun _ => ⟨b, r, hq2, hb, fun x hx => ?_⟩⟩
      rcases List.mem_cons.mp hx with rfl | hx
      · rw [fits_one] at q4
        exact of_decide_eq_true q4
      · obtain ⟨b', r', e3, _, e4⟩ := e2 (fun z => by rw [z] at hx; cases hx)
        cases e3
        exact e4 x hx
theorem con_stay {w : List Nat} {b : At} {r : List At} (h : fits w true b = true) : ∀ u : List Nat, (∀ c ∈ u, c ∈ w) → con u (b :: r) = some (b :: r)
  | [], _ => rfl
  | c :: u, hu => by
    have h2 := fits_iff.mp h
    have : fits [c] false b = true := by rw [fits_one]; exact decide_eq_true (h2.1 c (hu c List.mem_cons_self))
    rw [con_some (seek_fit this)]
    have hn : nxt b r = b :: r := by unfold nxt; rw [if_pos h2.2]
    rw [hn]
    exact con_stay h u fun c hc => hu c (List.mem_cons_of_mem _ hc)
theorem mem_rep {w : List Nat} {n c : Nat} (h : c ∈ (List.replicate n w).flatten) : c ∈ w := by
  obtain ⟨l, h1, h2⟩ := List.mem_flatten.mp h
  rw [(List.mem_replicate.mp h1).2] at h2
  exact h2
theorem con_rep {w : List Nat} (hw : w ≠ []) : ∀ (n : Nat) (q : List At), q.length < n → con (List.replicate n w).flatten q = match seek w true q with | [] => none | b :: r => some (b :: r)
  | 0, q, h => absurd h (Nat.not_lt_zero _)
  | n + 1, q, h => by
    rw [List.replicate_succ, List.flatten_cons, con_app]
    have hs := con_seek (w := w) w q fun _ h => h
    cases hc : con w q with
    | none => rw [hs.1 hc]; rfl
    | some q' =>
      have hl := con_len _ _ _ hc
      have e := hs.2 q' hc
      show con _ q' = _
      rcases Nat.lt_or_ge q'.length q.length with h2 | h2
      · rw [con_rep hw n q' (by omega), e]
      · obtain ⟨e1, e2⟩ := hl.2 (by omega)
        obtain ⟨b, r, e3, e4, e5⟩ := e2 hw
        subst e1
        have hf : fits w true b = true := fits_iff.mpr ⟨e5, e4⟩
        rw [e3, seek_fit hf, con_stay hf _ fun c hc => mem_rep hc]
def longest (p : List At) (n : Nat) : List Nat := (p.map fun a => (List.replicate (1 + n * (if a.2 then 1 else 0)) a.1).flatten).flatten
theorem lies_longest {n : Nat} : ∀ (one q : List At), (∀ a ∈ one, AtOk a) → q.length ≤ n → lies (wP (longest one n)) q = lies one q
  | [], q, _, _ => rfl
  | a :: one, q, ho, hq => by
    have ha := ho a List.mem_cons_self
    have ho2 : ∀ a ∈ one, AtOk a := fun b hb => ho b (List.mem_cons_of_mem _ hb)
    have el : longest (a :: one) n = (List.replicate (1 + n * (if a.2 then 1 else 0)) a.1).flatten ++ longest one n := by simp [longest]
    rw [con_lies, el, con_app]
    obtain ⟨w, m⟩ := a
    have suf : ∀ {b : At} {r : List At}, seek w m q = b :: r → r.length + 1 ≤ n ∧ fits w m b = true := fun {b r} h => by
      rcases seek_split w m q with ⟨q1, _⟩ | ⟨t, b', r', q1, q2, _, q4⟩
      · rw [q1] at h; cases h
      · rw [q1] at h; cases h
        have := congrArg List.length q2
        rw [List.length_append, List.length_cons] at this
        exact ⟨by omega, q4⟩
    cases m with
    | true =>
      rw [show (1 + n * (if ((w, true) : At).2 then 1 else 0)) = n + 1 by simp; omega]
      rw [con_rep (show w ≠ [] from ha.ne) (n + 1) q (by omega)]
      cases h : seek w true q with
      | nil => rw [lies_none (a := (w, true)) h]; rfl
      | cons b r =>
        obtain ⟨h1, h2⟩ := suf h
        have hn : nxt b r = b :: r := by unfold nxt; rw [if_pos (fits_iff.mp h2).2]
        rw [lies_go (a := (w, true)) h, hn, ← lies_longest one (b :: r) ho2 h1, con_lies]
        rfl
    | false =>
      rw [show (1 + n * (if ((w, false) : At).2 then 1 else 0)) = 1 by simp]
      obtain ⟨c, hc⟩ : ∃ c, w = [c] := List.length_eq_one_iff.mp (ha.one rfl)
      subst hc
      rw [show (List.replicate 1 ([c] : List Nat)).flatten = [c] from rfl]
      cases h : seek [c] false q with
      | nil => rw [con_none h, lies_none (a := ([c], false)) h]; rfl
      | cons b r =>
        obtain ⟨h1, h2⟩ := suf h
        rw [con_some h, lies_go (a := ([c], false)) h, ← lies_longest one (nxt b r) ho2 (Nat.le_trans nxt_len h1), con_lies]
        rfl
/-- what lies in a product lies in a longer one -/
theorem lies_mono : ∀ (one q t : List At), lies one q = true → lies one (t ++ q) = true
  | [], _, _, _ => by rw [lies]
  | a :: one, q, t, h => by
    cases hs : seek a.1 a.2 q with
    | nil => rw [lies_none hs] at h; cases h
    | cons b r =>
      rw [lies_go hs] at h
      rcases seek_split a.1 a.2 t with ⟨_, t2⟩ | ⟨t1, b1, r1, t3, t4, t5, t6⟩
      · rw [lies_go (a := a) (b := b) (r := r) (by rw [seek_skip t2, hs])]
        exact h
      · have e : seek a.1 a.2 (t ++ q) = b1 :: (r1 ++ q) := by
          rw [t4, List.append_assoc, seek_skip t5]
          exact seek_fit t6
        rw [lies_go e]
        rcases seek_split a.1 a.2 q with ⟨q1, _⟩ | ⟨u, b', r', q1, q2, _, _⟩
        · rw [hs] at q1; cases q1
        · rw [hs] at q1
          cases q1
          have hx : ∃ v, nxt b1 (r1 ++ q) = v ++ nxt b r := by
            have : ∃ v, q = v ++ nxt b r := by
              unfold nxt
              split
              · exact ⟨u, q2⟩
              · exact ⟨u ++ [b], by rw [q2]; simp⟩
            obtain ⟨v, hv⟩ := this
            unfold nxt
            split
            · exact ⟨b1 :: (r1 ++ v), by rw [List.cons_append, List.append_assoc]; unfold nxt at hv; rw [← hv]⟩
            · exact ⟨r1 ++ v, by rw [List.append_assoc]; unfold nxt at hv; rw [← hv]⟩
          obtain ⟨v, hv⟩ := hx
          rw [hv]
          exact lies_mono one _ _ h
theorem lies_part : ∀ (t s q : List At), lies (t ++ s) q = true → ∃ u q1, q = u ++ q1 ∧ lies s q1 = true
  | [], s, q, h => ⟨[], q, rfl, h⟩
  | a :: t, s, q, h => by
    rw [List.cons_append] at h
    rcases seek_split a.1 a.2 q with ⟨q1, _⟩ | ⟨u, b, r, q1, q2, _, _⟩
    · rw [lies_none q1] at h; cases h
    · rw [lies_go q1] at h
      obtain ⟨u2, q3, e1, e2⟩ := lies_part t s _ h
      have : ∃ v, q = v ++ nxt b r := by
        unfold nxt
        split
        · exact ⟨u, q2⟩
        · exact ⟨u ++ [b], by rw [q2]; simp⟩
      obtain ⟨v, hv⟩ := this
      exact ⟨v ++ u2, q3, by rw [hv, e1, List.append_assoc], e2⟩
/-- the words of a product that lies in another one are the other one's -/
theorem lies_trans : ∀ (w : List Nat) (one q : List At), lies (wP w) one = true → lies one q = true → lies (wP w) q = true
  | [], _, _, _, _ => rfl
  | c :: w, one, q, h1, h2 => by
    change lies (([c], false) :: wP w) one = true at h1
    rcases seek_split [c] false one with ⟨q1, _⟩ | ⟨t, b, r, q1, q2, _, q4⟩
    · rw [lies_none (a := ([c], false)) q1] at h1; cases h1
    · rw [lies_go (a := ([c], false)) q1] at h1
      rw [q2] at h2
      obtain ⟨u, q3, e1, e2⟩ := lies_part t (b :: r) q h2
      rw [e1]
      refine lies_mono _ _ _ ?_
      rcases seek_split b.1 b.2 q3 with ⟨p1, _⟩ | ⟨u2, d, r2, p1, p2, _, p4⟩
      · rw [lies_none p1] at e2; cases e2
      · rw [lies_go p1] at e2
        rw [p2]
        refine lies_mono _ _ _ ?_
        have hcb : c ∈ b.1 := by rw [fits_one] at q4; exact of_decide_eq_true q4
        have hall : ∀ x ∈ b.1, x ∈ d.1 := by
          unfold fits at p4
          rw [Bool.and_eq_true, List.all_eq_true] at p4
          exact fun x hx => of_decide_eq_true (p4.1 x hx)
        have hfd : fits [c] false d = true := by rw [fits_one]; exact decide_eq_true (hall c hcb)
        show lies (([c], false) :: wP w) (d :: r2) = true
        rw [lies_go (a := ([c], false)) (seek_fit hfd)]
        refine lies_trans w (nxt b r) _ h1 ?_
        cases hb : b.2 with
        | false =>
          have : nxt b r = r := by unfold nxt; rw [hb]; rfl
          rw [this]
          exact e2
        | true =>
          have hn : nxt b r = b :: r := by unfold nxt; rw [hb]; rfl
          have hd : d.2 = true := by
            unfold fits at p4
            rw [Bool.and_eq_true, hb] at p4
            simpa using p4.2
          have hnd : nxt d r2 = d :: r2 := by unfold nxt; rw [hd]; rfl
          rw [hn, hnd, lies_go (seek_fit p4), hnd]
          rw [hnd] at e2
          exact e2
def SpInside (C : Nat → List D → Sto → R D) : Prop := ∀ (p q : List At) (S : Sto), PrOk p → PrOk q → scp 0 false (C 143) [dP p, dP q] S = .ok (.bl (lies p q)) S
theorem inside_ok (hT : T 143 = some f_inside) {k : Nat} (hN : SpNeedProd (run T G k)) (hL : SpLies (run T G k)) : SpInside (run T G (k + 1)) := fun p q S hp hq => by
  refine pur hT rfl (by show (closedD 0 (dP p) && (closedD 0 (dP q) && true)) = true; rw [cl_P, cl_P]; rfl) ?_ S
  show Wt (exs _ _ f_inside.body [some (dP p), some (dP q)] []) _
  unfold f_inside
  have hpl := hp.len
  have hql := hq.len
  rw [wt_cons]
  simp only [ev, evs, evo, evT, evto, evF, evQ, evI, ex, wr_bind, wr_ok, wr_exc, wt_o, wt_seq, wt_turn, wt_next, wt_brk, wt_cont, wt_ret, wt_exc, Pl.R.bind_ok, Pl.R.o_ok, Pl.R.bind_exc, Pl.R.o_exc, List.getElem?_cons_zero, List.getElem?_cons_succ, List.set_cons_zero, List.set_cons_succ, hN p [] hp]
  rw [wt_cons]
  simp only [ev, evs, evo, evT, evto, evF, evQ, evI, ex, wr_bind, wr_ok, wr_exc, wt_o, wt_seq, wt_turn, wt_next, wt_brk, wt_cont, wt_ret, wt_exc, Pl.R.bind_ok, Pl.R.o_ok, Pl.R.bind_exc, Pl.R.o_exc, List.getElem?_cons_zero, List.getElem?_cons_succ, List.set_cons_zero, List.set_cons_succ, hN q [] hq]
  rw [wt_cons]
  simp only [ev, evs, evo, evT, evto, evF, evQ, evI, ex, wr_bind, wr_ok, wr_exc, wt_o, wt_seq, wt_turn, wt_next, wt_brk, wt_cont, wt_ret, wt_exc, Pl.R.bind_ok, Pl.R.o_ok, Pl.R.bind_exc, Pl.R.o_exc, List.getElem?_cons_zero, List.getElem?_cons_succ, List.set_cons_zero, List.set_cons_succ, hL p q [] (by omega) (by omega) (fun a ha => by have := (hp.ok a ha).len; omega)]
  exact frz_cl rfl
theorem longest_len {n : Nat} : ∀ {p : List At}, (∀ a ∈ p, AtOk a) → (longest p n).length ≤ p.length * ((1 + n) * 100)
  | [], _ => by simp [longest]
  | a :: p, h => by
    have ih := longest_len (n := n) (p := p) fun b hb => h b (List.mem_cons_of_mem _ hb)
    have el : longest (a :: p) n = (List.replicate (1 + n * (if a.2 then 1 else 0)) a.1).flatten ++ longest p n := by simp [longest]
    have h1 := (h a List.mem_cons_self).len
    have h2 : 1 + n * (if a.2 then 1 else 0) ≤ 1 + n := by split <;> omega
    have h3 : (1 + n * (if a.2 then 1 else 0)) * a.1.length ≤ (1 + n) * 100 := Nat.mul_le_mul h2 h1
    have h5 : (p.length + 1) * ((1 + n) * 100) = p.length * ((1 + n) * 100) + (1 + n) * 100 := Nat.succ_mul _ _
    rw [el, List.length_append, PyProof.Rows.lm_len_rep_flat, List.length_cons, h5]
    omega
theorem longest_snoc {p : List At} {a : At} {n : Nat} : longest (p ++ [a]) n = longest p n ++ (List.replicate (1 + n * (if a.2 then 1 else 0)) a.1).flatten := by simp [longest]
def SpLongest (C : Nat → List D → Sto → R D) : Prop := ∀ (p q : List At) (S : Sto), (∀ a ∈ p, AtOk a) → p.length ≤ 20 → q.length ≤ 20 → scp 0 false (C 142) [dP p, dP q] S = .ok (.str (longest p q.length)) S
theorem longest_ok (hT : T 142 = some f__law_longest) (k : Nat) : SpLongest (run T G (k + 1)) := fun p q S hp hpl hql => by
  refine pur hT rfl (by show (closedD 0 (dP p) && (closedD 0 (dP q) && true)) = true; rw [cl_P, cl_P]; rfl) ?_ S
  show Wt (exs _ _ f__law_longest.body [some (.tup (p.map dAt)), some (.tup (q.map dAt)), none, none, none] []) _
  unfold f__law_longest
  rw [wt_cons]
  simp only [ev, evs, evo, evT, evto, evF, evQ, evI, ex, wr_bind, wr_ok, wr_exc, wt_o, wt_seq, wt_turn, wt_next, wt_brk, wt_cont, wt_ret, wt_exc, Pl.R.bind_ok, Pl.R.o_ok, Pl.R.bind_exc, Pl.R.o_exc, List.getElem?_cons_zero, List.getElem?_cons_succ, List.set_cons_zero, List.set_cons_succ]
  rw [wt_cons]
  simp only [ev, evs, evo, evT, evto, evF, evQ, evI, ex, wr_bind, wr_ok, wr_exc, wt_o, wt_seq, wt_turn, wt_next, wt_brk, wt_cont, wt_ret, wt_exc, Pl.R.bind_ok, Pl.R.o_ok, Pl.R.bind_exc, Pl.R.o_exc, List.getElem?_cons_zero, List.getElem?_cons_succ, List.set_cons_zero, List.set_cons_succ, seqV]
  refine for_map (e := dAt) (fun i ρ S' => ∃ (y z : Option D), ρ = [some (.tup (p.map dAt)), some (.tup (q.map dAt)), some (.str (longest (p.take i) q.length)), y, z] ∧ S' = []) ⟨none, none, rfl, rfl⟩ (fun i a ρ S' hd hI => ?_) (fun ρ S' hI => ?_)
  · obtain ⟨y, z, rfl, rfl⟩ := hI
    have ha := hp a (List.mem_of_getElem? hd)
    have hi := (List.getElem?_eq_some_iff.mp hd).1
    have et : p.take (i + 1) = p.take i ++ [a] := by rw [List.take_add_one, hd]; rfl
    have hlen : (longest (p.take i) q.length).length ≤ (p.take i).length * ((1 + q.length) * 100) := longest_len fun b hb => hp b (List.mem_of_mem_take hb)
    have htl : (p.take i).length = i := by rw [List.length_take]; omega
    rw [htl] at hlen
    have hb1 : i * ((1 + q.length) * 100) ≤ 19 * (21 * 100) := Nat.mul_le_mul (by omega) (Nat.mul_le_mul (by omega) (Nat.le_refl _))
    obtain ⟨w, m⟩ := a
    have hwl : w.length ≤ 100 := ha.len
    refine ⟨[some (.tup (p.map dAt)), some (.tup (q.map dAt)), some (.str (longest (p.take i) q.length)), some (.str w), some (.bl m)], rfl, ?_⟩
    rw [wt_cons]
    rw [et, longest_snoc]
    have hnum : (1 : Int) + (q.length : Int) * (if m then 1 else 0) = ((1 + q.length * (if m then 1 else 0) : Nat) : Int) := by cases m <;> simp
    have hk : 1 + q.length * (if m then 1 else 0) ≤ 21 := by split <;> omega
    have hmul : ∀ S, binV .mul (.str w) (.int ((1 + q.length * (if m then 1 else 0) : Nat) : Int)) S = .ok (.str (List.replicate (1 + q.length * (if m then 1 else 0)) w).flatten) S := fun S => by
      show (if _ then _ else _) = _
      rw [if_pos ⟨by omega, by omega, by omega⟩, Int.toNat_natCast]
    have hml : (List.replicate (1 + q.length * (if m then 1 else 0)) w).flatten.length ≤ 21 * 100 := by
      rw [PyProof.Rows.lm_len_rep_flat]
      exact Nat.mul_le_mul hk hwl
    have hm2 : ∀ (j : Int) S, (j = 0 ∨ j = 1) → binV .mul (.int (q.length : Int)) (.int j) S = .ok (.int ((q.length : Int) * j)) S := fun j S hj => by
      rcases hj with rfl | rfl <;> exact v_mul (by decide) (by decide)
    simp only [ev, evs, evo, evT, evto, evF, evQ, evI, ex, wr_bind, wr_ok, wr_exc, wt_o, wt_seq, wt_turn, wt_next, wt_brk, wt_cont, wt_ret, wt_exc, Pl.R.bind_ok, Pl.R.o_ok, Pl.R.bind_exc, Pl.R.o_exc, List.getElem?_cons_zero, List.getElem?_cons_succ, List.set_cons_zero, List.set_cons_succ, len_tup, List.length_map]
    rw [hm2 _ _ (by cases m <;> simp)]
    simp only [ev, evs, evo, evT, evto, evF, evQ, evI, ex, wr_bind, wr_ok, wr_exc, wt_o, wt_seq, wt_turn, wt_next, wt_brk, wt_cont, wt_ret, wt_exc, Pl.R.bind_ok, Pl.R.o_ok, Pl.R.bind_exc, Pl.R.o_exc, List.getElem?_cons_zero, List.getElem?_cons_succ, List.set_cons_zero, List.set_cons_succ, v_add, hnum, hmul]
    rw [add_str (by omega)]
    simp only [ev, evs, evo, evT, evto, evF, evQ, evI, ex, wr_bind, wr_ok, wr_exc, wt_o, wt_seq, wt_turn, wt_next, wt_brk, wt_cont, wt_ret, wt_exc, Pl.R.bind_ok, Pl.R.o_ok, Pl.R.bind_exc, Pl.R.o_exc, List.getElem?_cons_zero, List.getElem?_cons_succ, List.set_cons_zero, List.set_cons_succ]
    rw [wt_nil]
    exact ⟨_, _, rfl, rfl⟩
  · obtain ⟨y, z, rfl, rfl⟩ := hI
    try dsimp only
    rw [wt_cons]
    simp only [ev, evs, evo, evT, evto, evF, evQ, evI, ex, wr_bind, wr_ok, wr_exc, wt_o, wt_seq, wt_turn, wt_next, wt_brk, wt_cont, wt_ret, wt_exc, Pl.R.bind_ok, Pl.R.o_ok, Pl.R.bind_exc, Pl.R.o_exc, List.getElem?_cons_zero, List.getElem?_cons_succ, List.set_cons_zero, List.set_cons_succ]
    rw [List.take_length]
    exact frz_cl rfl
theorem prOk_app {p q : List At} (hp : PrOk p) (hq : PrOk q) (h : p.length + q.length ≤ 1000) : PrOk (p ++ q) := ⟨by rw [List.length_append]; exact h, fun a ha => by
  rcases List.mem_append.mp ha with ha | ha
  · exact hp.ok a ha
  · exact hq.ok a ha⟩
theorem prOk_sub {p q : List At} (hp : PrOk p) (h : q.Sublist p) : PrOk q := ⟨Nat.le_trans h.length_le hp.len, fun a ha => hp.ok a (h.subset ha)⟩
theorem sli_tup {S : Sto} {x : List D} {lo hi : Option Int} : sliV (.tup x) lo hi S = .ok (.tup (cutL x lo hi)) S := rfl
def SpBent (C : Nat → List D → Sto → R D) : Prop := ∀ (B : Bg) (ls : List Nat) (p : List At) (S : Sto) (P : D → Sto → Prop) (X : Xc → Sto → Prop), LsOk ls → PrOk p → p.length ≤ 9 → (∀ (q : List At) (B' : Bg), PrOk q → q.length ≤ 10 → P (dP q) (B'.on S)) → Wr (scp 2 false (C 141) [.ref 1, .fro (ls.map one), dP p] (B.on S)) P X
theorem bent_ok (hT : T 141 = some f__law_bent_atoms) {k : Nat} (hp : SpPull (run T G k)) (hm : SpProduct (run T G k)) : SpBent (run T G (k + 1)) := fun B ls p S P X hls hpo hpl h => by
  have hhi := hls.hi
  refine bag hT rfl (by show (closedL 2 _ && (closedD 2 (dP p) && true)) = true; rw [closedL_map fun _ => rfl, closed_mono (Nat.zero_le 2) (cl_P p)] <;> rfl) ?_
  show Wt (exs _ _ f__law_bent_atoms.body [some (.ref 1), some (.fro (ls.map one)), some (.tup (p.map dAt)), none, none] (B.on [])) _
  unfold f__law_bent_atoms
  have fin : ∀ (q : List At) (B4 : Bg), PrOk q → q.length ≤ 10 → ∃ (B' : Bg) (S2 : Sto) (d : D), B4.on [] = B'.on S2 ∧ frz (B4.on []) 2 6 (.tup (q.map dAt)) = some d ∧ P d (B'.on S) := fun q B4 h1 h2 => ⟨B4, [], dP q, rfl, frz_cl (closed_mono (Nat.zero_le 2) (cl_P q)), h q B4 h1 h2⟩
  rw [wt_cons]
  simp only [ev, evs, evo, evT, evto, evF, evQ, evI, ex, wr_bind, wr_ok, wr_exc, wt_o, wt_seq, wt_turn, wt_next, wt_brk, wt_cont, wt_ret, wt_exc, Pl.R.bind_ok, Pl.R.o_ok, Pl.R.bind_exc, Pl.R.o_exc, List.getElem?_cons_zero, List.getElem?_cons_succ, List.set_cons_zero, List.set_cons_succ, len_tup, List.length_map, v_add]
  refine hp B _ _ _ _ (by omega) (by omega) fun at_ B1 a0 a1 => ?_
  rw [wt_cons]
  simp only [ev, evs, evo, evT, evto, evF, evQ, evI, ex, wr_bind, wr_ok, wr_exc, wt_o, wt_seq, wt_turn, wt_next, wt_brk, wt_cont, wt_ret, wt_exc, Pl.R.bind_ok, Pl.R.o_ok, Pl.R.bind_exc, Pl.R.o_exc, List.getElem?_cons_zero, List.getElem?_cons_succ, List.set_cons_zero, List.set_cons_succ]
  refine hp B1 _ _ _ _ (by decide) (by decide) fun kd B2 k0 k1 => ?_
  obtain ⟨n, rfl⟩ : ∃ n : Nat, at_ = (n : Int) := ⟨at_.toNat, by omega⟩
  have hs1 : ((n : Int) + 1) = ((n + 1 : Nat) : Int) := by omega
  rw [wt_cons]
  simp only [ev, evs, evo, evT, evto, evF, evQ, evI, ex, wr_bind, wr_ok, wr_exc, wt_o, wt_seq, wt_turn, wt_next, wt_brk, wt_cont, wt_ret, wt_exc, Pl.R.bind_ok, Pl.R.o_ok, Pl.R.bind_exc, Pl.R.o_exc, List.getElem?_cons_zero, List.getElem?_cons_succ, List.set_cons_zero, List.set_cons_succ, c_eqi]
  by_cases e0 : kd = 0
  · simp only [e0, decide_true, ev, evs, evo, evT, evto, evF, evQ, evI, ex, wr_bind, wr_ok, wr_exc, wt_o, wt_seq, wt_turn, wt_next, wt_brk, wt_cont, wt_ret, wt_exc, Pl.R.bind_ok, Pl.R.o_ok, Pl.R.bind_exc, Pl.R.o_exc, List.getElem?_cons_zero, List.getElem?_cons_succ, List.set_cons_zero, List.set_cons_succ]
    rw [wt_cons]
    simp only [ev, evs, evo, evT, evto, evF, evQ, evI, ex, wr_bind, wr_ok, wr_exc, wt_o, wt_seq, wt_turn, wt_next, wt_brk, wt_cont, wt_ret, wt_exc, Pl.R.bind_ok, Pl.R.o_ok, Pl.R.bind_exc, Pl.R.o_exc, List.getElem?_cons_zero, List.getElem?_cons_succ, List.set_cons_zero, List.set_cons_succ, sli_tup, cut_to, cut_from]
    refine hm B2 ls 1 _ _ _ hls.lo (by omega) hls.nd hls.lt (by decide) (by decide) fun q B3 hq hql _ => ?_
    simp only [ev, evs, evo, evT, evto, evF, evQ, evI, ex, wr_bind, wr_ok, wr_exc, wt_o, wt_seq, wt_turn, wt_next, wt_brk, wt_cont, wt_ret, wt_exc, Pl.R.bind_ok, Pl.R.o_ok, Pl.R.bind_exc, Pl.R.o_exc, List.getElem?_cons_zero, List.getElem?_cons_succ, List.set_cons_zero, List.set_cons_succ, dP, cut_to, cut_from]
    rw [add_tup (by simp; omega)]
    simp only [ev, evs, evo, evT, evto, evF, evQ, evI, ex, wr_bind, wr_ok, wr_exc, wt_o, wt_seq, wt_turn, wt_next, wt_brk, wt_cont, wt_ret, wt_exc, Pl.R.bind_ok, Pl.R.o_ok, Pl.R.bind_exc, Pl.R.o_exc, List.getElem?_cons_zero, List.getElem?_cons_succ, List.set_cons_zero, List.set_cons_succ, cut_to, cut_from, sli_tup]
    rw [add_tup (by simp; omega)]
    simp only [ev, evs, evo, evT, evto, evF, evQ, evI, ex, wr_bind, wr_ok, wr_exc, wt_o, wt_seq, wt_turn, wt_next, wt_brk, wt_cont, wt_ret, wt_exc, Pl.R.bind_ok, Pl.R.o_ok, Pl.R.bind_exc, Pl.R.o_exc, List.getElem?_cons_zero, List.getElem?_cons_succ, List.set_cons_zero, List.set_cons_succ]
    have e : (p.map dAt).take n ++ q.map dAt ++ (p.map dAt).drop n = (p.take n ++ q ++ p.drop n).map dAt := by simp
    rw [e]
    exact fin _ B3 (prOk_app (prOk_app (prOk_sub hpo (List.take_sublist _ _)) hq (by simp; omega)) (prOk_sub hpo (List.drop_sublist _ _)) (by simp; omega)) (by simp; omega)
  simp only [e0, decide_false, ev, evs, evo, evT, evto, evF, evQ, evI, ex, wr_bind, wr_ok, wr_exc, wt_o, wt_seq, wt_turn, wt_next, wt_brk, wt_cont, wt_ret, wt_exc, Pl.R.bind_ok, Pl.R.o_ok, Pl.R.bind_exc, Pl.R.o_exc, List.getElem?_cons_zero, List.getElem?_cons_succ, List.set_cons_zero, List.set_cons_succ]
  rw [wt_nil]
  try dsimp only
  rw [wt_cons]
  simp only [ev, evs, evo, evT, evto, evF, evQ, evI, ex, wr_bind, wr_ok, wr_exc, wt_o, wt_seq, wt_turn, wt_next, wt_brk, wt_cont, wt_ret, wt_exc, Pl.R.bind_ok, Pl.R.o_ok, Pl.R.bind_exc, Pl.R.o_exc, List.getElem?_cons_zero, List.getElem?_cons_succ, List.set_cons_zero, List.set_cons_succ, c_eqi]
  by_cases e1 : kd = 1
  · simp only [e1, decide_true, ev, evs, evo, evT, evto, evF, evQ, evI, ex, wr_bind, wr_ok, wr_exc, wt_o, wt_seq, wt_turn, wt_next, wt_brk, wt_cont, wt_ret, wt_exc, Pl.R.bind_ok, Pl.R.o_ok, Pl.R.bind_exc, Pl.R.o_exc, List.getElem?_cons_zero, List.getElem?_cons_succ, List.set_cons_zero, List.set_cons_succ]
    rw [wt_cons]
    simp only [ev, evs, evo, evT, evto, evF, evQ, evI, ex, wr_bind, wr_ok, wr_exc, wt_o, wt_seq, wt_turn, wt_next, wt_brk, wt_cont, wt_ret, wt_exc, Pl.R.bind_ok, Pl.R.o_ok, Pl.R.bind_exc, Pl.R.o_exc, List.getElem?_cons_zero, List.getElem?_cons_succ, List.set_cons_zero, List.set_cons_succ, sli_tup, cut_to, cut_from, v_add, hs1]
    rw [add_tup (by simp; omega)]
    simp only [ev, evs, evo, evT, evto, evF, evQ, evI, ex, wr_bind, wr_ok, wr_exc, wt_o, wt_seq, wt_turn, wt_next, wt_brk, wt_cont, wt_ret, wt_exc, Pl.R.bind_ok, Pl.R.o_ok, Pl.R.bind_exc, Pl.R.o_exc, List.getElem?_cons_zero, List.getElem?_cons_succ, List.set_cons_zero, List.set_cons_succ]
    have e : (p.map dAt).take n ++ (p.map dAt).drop (n + 1) = (p.take n ++ p.drop (n + 1)).map dAt := by simp
    rw [e]
    exact fin _ B2 (prOk_app (prOk_sub hpo (List.take_sublist _ _)) (prOk_sub hpo (List.drop_sublist _ _)) (by simp; omega)) (by simp; omega)
  simp only [e1, decide_false, ev, evs, evo, evT, evto, evF, evQ, evI, ex, wr_bind, wr_ok, wr_exc, wt_o, wt_seq, wt_turn, wt_next, wt_brk, wt_cont, wt_ret, wt_exc, Pl.R.bind_ok, Pl.R.o_ok, Pl.R.bind_exc, Pl.R.o_exc, List.getElem?_cons_zero, List.getElem?_cons_succ, List.set_cons_zero, List.set_cons_succ]
  rw [wt_nil]
  try dsimp only
  rw [wt_cons]
  simp only [ev, evs, evo, evT, evto, evF, evQ, evI, ex, wr_bind, wr_ok, wr_exc, wt_o, wt_seq, wt_turn, wt_next, wt_brk, wt_cont, wt_ret, wt_exc, Pl.R.bind_ok, Pl.R.o_ok, Pl.R.bind_exc, Pl.R.o_exc, List.getElem?_cons_zero, List.getElem?_cons_succ, List.set_cons_zero, List.set_cons_succ, c_eqi, c_lt, len_tup, List.length_map]
  have tail : ∀ (hk : kd ≠ 2 ∨ True), Wt (exs (run T G k) G (f__law_bent_atoms.body.drop 5) [some (.ref 1), some (.fro (ls.map one)), some (.tup (p.map dAt)), some (.int (n : Int)), some (.int kd)] (B2.on [])) ⟨fun _ S1 => ∃ (B' : Bg) (S2 : Sto), S1 = B'.on S2 ∧ P .non (B'.on S), no2, no2, fun v S1 => ∃ (B' : Bg) (S2 : Sto) (d : D), S1 = B'.on S2 ∧ frz S1 2 6 v = some d ∧ P d (B'.on S), no2⟩ := fun _ => by
    simp only [f__law_bent_atoms, List.drop_succ_cons, List.drop_zero]
    rw [wt_cons]
    simp only [ev, evs, evo, evT, evto, evF, evQ, evI, ex, wr_bind, wr_ok, wr_exc, wt_o, wt_seq, wt_turn, wt_next, wt_brk, wt_cont, wt_ret, wt_exc, Pl.R.bind_ok, Pl.R.o_ok, Pl.R.bind_exc, Pl.R.o_exc, List.getElem?_cons_zero, List.getElem?_cons_succ, List.set_cons_zero, List.set_cons_succ, c_eqi]
    by_cases e3 : kd = 3
    · simp only [e3, decide_true, ev, evs, evo, evT, evto, evF, evQ, evI, ex, wr_bind, wr_ok, wr_exc, wt_o, wt_seq, wt_turn, wt_next, wt_brk, wt_cont, wt_ret, wt_exc, Pl.R.bind_ok, Pl.R.o_ok, Pl.R.bind_exc, Pl.R.o_exc, List.getElem?_cons_zero, List.getElem?_cons_succ, List.set_cons_zero, List.set_cons_succ]
      refine hm B2 ls 4 _ _ _ hls.lo (by omega) hls.nd hls.lt (by decide) (by decide) fun q B3 hq hql _ => ?_
      exact fin q B3 hq (by omega)
    · simp only [e3, decide_false, ev, evs, evo, evT, evto, evF, evQ, evI, ex, wr_bind, wr_ok, wr_exc, wt_o, wt_seq, wt_turn, wt_next, wt_brk, wt_cont, wt_ret, wt_exc, Pl.R.bind_ok, Pl.R.o_ok, Pl.R.bind_exc, Pl.R.o_exc, List.getElem?_cons_zero, List.getElem?_cons_succ, List.set_cons_zero, List.set_cons_succ]
      rw [← List.map_reverse]
      exact fin _ B2 ⟨by rw [List.length_reverse]; exact hpo.len, fun a ha => hpo.ok a (List.mem_reverse.mp ha)⟩ (by rw [List.length_reverse]; omega)
  by_cases e2 : kd = 2
  · simp only [show decide (kd = 2) = true from decide_eq_true e2, ev, evs, evo, evT, evto, evF, evQ, evI, ex, wr_bind, wr_ok, wr_exc, wt_o, wt_seq, wt_turn, wt_next, wt_brk, wt_cont, wt_ret, wt_exc, Pl.R.bind_ok, Pl.R.o_ok, Pl.R.bind_exc, Pl.R.o_exc, List.getElem?_cons_zero, List.getElem?_cons_succ, List.set_cons_zero, List.set_cons_succ]
    by_cases hn : (n : Int) < (p.length : Int)
    · simp only [hn, decide_true, ev, evs, evo, evT, evto, evF, evQ, evI, ex, wr_bind, wr_ok, wr_exc, wt_o, wt_seq, wt_turn, wt_next, wt_brk, wt_cont, wt_ret, wt_exc, Pl.R.bind_ok, Pl.R.o_ok, Pl.R.bind_exc, Pl.R.o_exc, List.getElem?_cons_zero, List.getElem?_cons_succ, List.set_cons_zero, List.set_cons_succ]
      obtain ⟨sl, s1, s2, s3⟩ := sort_ones hls.nd
      have hss : strsD (ls.map one) = some (ls.map fun c => [c]) := strs_of ls
      have hsl : sl.length = ls.length := s2.length_eq
      have hs2 : strsD (List.map D.str (List.map (fun c => [c]) sl)) = some (sl.map fun c => [c]) := by
        have := strs_of sl
        rw [List.map_map]
        exact this
      rw [wt_cons]
      simp only [ev, evs, evo, evT, evto, evF, evQ, evI, ex, wr_bind, wr_ok, wr_exc, wt_o, wt_seq, wt_turn, wt_next, wt_brk, wt_cont, wt_ret, wt_exc, Pl.R.bind_ok, Pl.R.o_ok, Pl.R.bind_exc, Pl.R.o_exc, List.getElem?_cons_zero, List.getElem?_cons_succ, List.set_cons_zero, List.set_cons_succ, sli_tup, cut_to, cut_from, v_add, hs1, seqV, Bool.false_eq_true, if_false, hss, s1]
      rw [if_pos (by rw [List.length_map]; omega)]
      simp only [ev, evs, evo, evT, evto, evF, evQ, evI, ex, wr_bind, wr_ok, wr_exc, wt_o, wt_seq, wt_turn, wt_next, wt_brk, wt_cont, wt_ret, wt_exc, Pl.R.bind_ok, Pl.R.o_ok, Pl.R.bind_exc, Pl.R.o_exc, List.getElem?_cons_zero, List.getElem?_cons_succ, List.set_cons_zero, List.set_cons_succ, hs2, List.length_nil]
      rw [sum_one, join_one, if_pos (by show sl.length + _ * 0 ≤ 100000; omega)]
      simp only [ev, evs, evo, evT, evto, evF, evQ, evI, ex, wr_bind, wr_ok, wr_exc, wt_o, wt_seq, wt_turn, wt_next, wt_brk, wt_cont, wt_ret, wt_exc, Pl.R.bind_ok, Pl.R.o_ok, Pl.R.bind_exc, Pl.R.o_exc, List.getElem?_cons_zero, List.getElem?_cons_succ, List.set_cons_zero, List.set_cons_succ]
      rw [if_pos (by show 2 ≤ 100000; omega)]
      simp only [ev, evs, evo, evT, evto, evF, evQ, evI, ex, wr_bind, wr_ok, wr_exc, wt_o, wt_seq, wt_turn, wt_next, wt_brk, wt_cont, wt_ret, wt_exc, Pl.R.bind_ok, Pl.R.o_ok, Pl.R.bind_exc, Pl.R.o_exc, List.getElem?_cons_zero, List.getElem?_cons_succ, List.set_cons_zero, List.set_cons_succ]
      rw [if_pos (by show 1 ≤ 100000; omega)]
      simp only [ev, evs, evo, evT, evto, evF, evQ, evI, ex, wr_bind, wr_ok, wr_exc, wt_o, wt_seq, wt_turn, wt_next, wt_brk, wt_cont, wt_ret, wt_exc, Pl.R.bind_ok, Pl.R.o_ok, Pl.R.bind_exc, Pl.R.o_exc, List.getElem?_cons_zero, List.getElem?_cons_succ, List.set_cons_zero, List.set_cons_succ]
      rw [add_tup (by simp; omega)]
      simp only [ev, evs, evo, evT, evto, evF, evQ, evI, ex, wr_bind, wr_ok, wr_exc, wt_o, wt_seq, wt_turn, wt_next, wt_brk, wt_cont, wt_ret, wt_exc, Pl.R.bind_ok, Pl.R.o_ok, Pl.R.bind_exc, Pl.R.o_exc, List.getElem?_cons_zero, List.getElem?_cons_succ, List.set_cons_zero, List.set_cons_succ]
      rw [add_tup (by simp; omega)]
      simp only [ev, evs, evo, evT, evto, evF, evQ, evI, ex, wr_bind, wr_ok, wr_exc, wt_o, wt_seq, wt_turn, wt_next, wt_brk, wt_cont, wt_ret, wt_exc, Pl.R.bind_ok, Pl.R.o_ok, Pl.R.bind_exc, Pl.R.o_exc, List.getElem?_cons_zero, List.getElem?_cons_succ, List.set_cons_zero, List.set_cons_succ]
      have e : (p.map dAt).take n ++ [D.tup [.str sl, .bl true]] ++ (p.map dAt).drop (n + 1) = (p.take n ++ [(sl, true)] ++ p.drop (n + 1)).map dAt := by simp [dAt]
      rw [e]
      have hlo := hls.lo
      refine fin _ B2 (prOk_app (prOk_app (prOk_sub hpo (List.take_sublist _ _)) ⟨by show 1 ≤ 1000; omega, fun a ha => ?_⟩ (by simp; omega)) (prOk_sub hpo (List.drop_sublist _ _)) (by simp; omega)) (by simp; omega)
      rw [List.mem_singleton.mp ha]
      exact ⟨fun z => by rw [show sl = [] from z] at hsl; simp at hsl; omega, s3, fun x hx => hls.lt x (s2.mem_iff.mp hx), (fun z => nomatch z), by show sl.length ≤ 100; omega⟩
    · simp only [hn, decide_false, ev, evs, evo, evT, evto, evF, evQ, evI, ex, wr_bind, wr_ok, wr_exc, wt_o, wt_seq, wt_turn, wt_next, wt_brk, wt_cont, wt_ret, wt_exc, Pl.R.bind_ok, Pl.R.o_ok, Pl.R.bind_exc, Pl.R.o_exc, List.getElem?_cons_zero, List.getElem?_cons_succ, List.set_cons_zero, List.set_cons_succ]
      rw [wt_nil]
      exact tail (.inr trivial)
  · simp only [e2, decide_false, ev, evs, evo, evT, evto, evF, evQ, evI, ex, wr_bind, wr_ok, wr_exc, wt_o, wt_seq, wt_turn, wt_next, wt_brk, wt_cont, wt_ret, wt_exc, Pl.R.bind_ok, Pl.R.o_ok, Pl.R.bind_exc, Pl.R.o_exc, List.getElem?_cons_zero, List.getElem?_cons_succ, List.set_cons_zero, List.set_cons_succ]
    rw [wt_nil]
    exact tail (.inr trivial)
end
end Pl

set_option maxHeartbeats 4000000
/-! Products made plain: the law of it. -/
namespace Pl
open PySem L2
/-! ### made plain -/
def sub (a b : At) : Bool := a.1.all fun c => decide (c ∈ b.1)
theorem sub_iff {a b : At} : sub a b = true ↔ ∀ c ∈ a.1, c ∈ b.1 := by simp [sub]
theorem sub_trans {a b c : At} (h : sub a b = true) (k : sub b c = true) : sub a c = true := sub_iff.mpr fun x hx => sub_iff.mp k x (sub_iff.mp h x hx)
theorem sub_refl (a : At) : sub a a = true := sub_iff.mpr fun _ h => h
def cov (a : At) : List At → Bool
  | [] => false
  | b :: _ => b.2 && sub a b
def pops (a : At) (st : List At) : List At := if a.2 then st.dropWhile fun b => sub b a else st
def psh (st : List At) (a : At) : List At := if cov a st then st else a :: pops a st
def mp (p : List At) : List At := (p.foldl psh []).reverse
theorem psh_sub {st : List At} {a : At} : (psh st a).Sublist (a :: st) := by
  unfold psh pops
  split
  · exact List.sublist_cons_self _ _
  · refine List.Sublist.cons_cons _ ?_
    split
    · exact List.dropWhile_sublist _
    · exact List.Sublist.refl _
theorem fold_sub : ∀ (p st : List At), (p.foldl psh st).Sublist (p.reverse ++ st)
  | [], st => List.Sublist.refl _
  | a :: p, st => by
    rw [List.foldl_cons, List.reverse_cons, List.append_assoc]
    exact (fold_sub p (psh st a)).trans ((List.Sublist.refl _).append psh_sub)
theorem mp_sub (p : List At) : (mp p).Sublist p := by
  have := (fold_sub p []).reverse
  rw [List.append_nil, List.reverse_reverse] at this
  exact this
/-- plain: no neighbour among a many one's letters -/
def okp (x y : At) : Bool := !(y.2 && sub x y) && !(x.2 && sub y x)
def plB : List At → Bool
  | x :: y :: r => okp x y && plB (y :: r)
  | _ => true
/-- a stack, its top first -/
def tpl : List At → Prop
  | y :: x :: r => okp x y = true ∧ tpl (x :: r)
  | _ => True
theorem tpl_tail {a : At} : ∀ {st : List At}, tpl (a :: st) → tpl st
  | [], _ => trivial
  | _ :: _, h => h.2
theorem pops_tpl {a : At} : ∀ {st : List At}, tpl st → tpl (st.dropWhile fun b => sub b a)
  | [], h => h
  | b :: st, h => by
    rw [List.dropWhile_cons]
    split
    · exact pops_tpl (tpl_tail h)
    · exact h
theorem okp_iff {x y : At} : okp x y = true ↔ ¬ (y.2 = true ∧ sub x y = true) ∧ ¬ (x.2 = true ∧ sub y x = true) := by
  unfold okp
  cases y.2 <;> cases x.2 <;> cases sub x y <;> cases sub y x <;> simp
/-- below a popped one none covers -/
theorem pops_cov {a : At} : ∀ {st : List At}, tpl st → cov a st = false → cov a (st.dropWhile fun b => sub b a) = false
  | [], _, h => h
  | b :: st, hp, h => by
    rw [List.dropWhile_cons]
    split
    · rename_i hb
      refine pops_cov (tpl_tail hp) ?_
      cases st with
      | nil => rfl
      | cons c r =>
        rw [Bool.eq_false_iff]
        intro z
        have z2 : c.2 = true ∧ sub a c = true := by simpa [cov] using z
        exact (okp_iff.mp hp.1).2 ⟨z2.1, sub_trans hb z2.2⟩
    · exact h
theorem dw_head {a : At} : ∀ {st : List At} {b : At} {r : List At}, (st.dropWhile fun b => sub b a) = b :: r → sub b a = false
  | [], _, _, h => by cases h
  | c :: st, b, r, h => by
    rw [List.dropWhile_cons] at h
    split at h
    · exact dw_head h
    · rename_i hc
      cases h
      simpa using hc
theorem psh_tpl {st : List At} {a : At} (h : tpl st) : tpl (psh st a) := by
  unfold psh
  cases hc : cov a st with
  | true => exact h
  | false =>
    rw [if_neg Bool.false_ne_true]
    have hp : tpl (pops a st) := by
      unfold pops
      split
      · exact pops_tpl h
      · exact h
    have hcv : cov a (pops a st) = false := by
      unfold pops
      split
      · exact pops_cov h hc
      · exact hc
    cases he : pops a st with
    | nil => exact trivial
    | cons b r =>
      rw [he] at hp hcv
      refine ⟨okp_iff.mpr ⟨fun z => ?_, fun z => ?_⟩, hp⟩
      · unfold pops at he
        rw [if_pos z.1] at he
        rw [dw_head he] at z
        exact nomatch z.2
      · have : cov a (b :: r) = true := by simp [cov, z.1, z.2]
        rw [this] at hcv
        cases hcv
theorem fold_tpl : ∀ (p st : List At), tpl st → tpl (p.foldl psh st)
  | [], _, h => h
  | _ :: p, _, h => fold_tpl p _ (psh_tpl h)
theorem plB_app : ∀ (s : List At) (x y : At), plB (s ++ [x]) = true → okp x y = true → plB (s ++ [x] ++ [y]) = true
  | [], x, y, _, h => by simp [plB, h]
  | [z], x, y, h, k => by simp [plB] at h ⊢; exact ⟨h, k⟩
  | z :: w :: s, x, y, h, k => by
    have h2 : okp z w = true ∧ plB (w :: s ++ [x]) = true := by simpa [plB] using h
    have := plB_app (w :: s) x y h2.2 k
    show (okp z w && plB (w :: s ++ [x] ++ [y])) = true
    rw [h2.1, this]
    rfl
theorem tpl_plB : ∀ {st : List At}, tpl st → plB st.reverse = true
  | [], _ => rfl
  | [a], _ => rfl
  | y :: x :: r, h => by
    have ih := tpl_plB h.2
    rw [List.reverse_cons] at ih ⊢
    rw [List.reverse_cons]
    exact plB_app _ _ _ ih h.1
theorem mp_plain (p : List At) : plB (mp p) = true := tpl_plB (fold_tpl p [] trivial)
theorem psh_keep {st : List At} {a : At} (h : tpl (a :: st)) : psh st a = a :: st := by
  cases st with
  | nil =>
    unfold psh pops cov
    simp
  | cons b r =>
    have h1 := okp_iff.mp h.1
    unfold psh
    have : cov a (b :: r) = false := by
      rw [Bool.eq_false_iff]
      intro z
      exact h1.2 (by simpa [cov] using z)
    rw [this, if_neg Bool.false_ne_true]
    unfold pops
    split
    · rename_i ha
      rw [List.dropWhile_cons]
      have : sub b a = false := by
        rw [Bool.eq_false_iff]
        exact fun z => h1.1 ⟨ha, z⟩
      rw [this]
      rfl
    · rfl
theorem fold_keep : ∀ (p st : List At), tpl (p.reverse ++ st) → p.foldl psh st = p.reverse ++ st
  | [], _, _ => rfl
  | a :: p, st, h => by
    rw [List.reverse_cons, List.append_assoc] at h ⊢
    have : ∀ (u : List At) {v : List At}, tpl (u ++ v) → tpl v := fun u => by
      induction u with
      | nil => exact fun h => h
      | cons x u ih => exact fun h => ih (tpl_tail h)
    have h2 : tpl (a :: st) := this p.reverse h
    rw [List.foldl_cons, psh_keep h2]
    exact fold_keep p (a :: st) h
theorem plB_tpl : ∀ {p : List At}, plB p = true → tpl p.reverse := by
  have go : ∀ (p st : List At), plB p = true → tpl st → (∀ x y r s, st = x :: r → p = y :: s → okp x y = true) → tpl (p.reverse ++ st)
    := fun p => by
      induction p with
      | nil => exact fun st _ h _ => h
      | cons a p ih =>
        intro st hp hs hx
        rw [List.reverse_cons, List.append_assoc]
        refine ih (a :: st) ?_ ?_ ?_
        · cases p with
          | nil => rfl
          | cons b p => exact (by simpa [plB] using hp : okp a b = true ∧ plB (b :: p) = true).2
        · cases st with
          | nil => exact trivial
          | cons x r => exact ⟨hx x a r p rfl rfl, hs⟩
        · intro x y r s e1 e2
          cases e1
          subst e2
          exact (by simpa [plB] using hp : okp a y = true ∧ plB (y :: s) = true).1
  intro p hp
  have := go p [] hp trivial fun x y r s h => by cases h
  rw [List.append_nil] at this
  exact this
theorem mp_keep {p : List At} (h : plB p = true) : mp p = p := by
  unfold mp
  rw [fold_keep p [] (by rw [List.append_nil]; exact plB_tpl h), List.append_nil, List.reverse_reverse]
theorem mp_mp (p : List At) : mp (mp p) = mp p := mp_keep (mp_plain p)
/-! blown ones -/
theorem psh_cov {st : List At} {a x : At} (ha : a.2 = true) (hx : sub x a = true) : psh (psh st a) x = psh st a := by
  unfold psh
  cases hc : cov a st with
  | true =>
    simp only [if_true]
    cases st with
    | nil => cases hc
    | cons b r =>
      have h2 : b.2 = true ∧ sub a b = true := by simpa [cov] using hc
      have : cov x (b :: r) = true := by simp [cov, h2.1, sub_trans hx h2.2]
      rw [this]
      rfl
  | false =>
    simp only [Bool.false_eq_true, if_false]
    have : cov x (a :: pops a st) = true := by simp [cov, ha, hx]
    rw [this]
    rfl
theorem psh_one {st : List At} {a x : At} (ha : a.2 = true) (hx : sub x a = true) (hm : x.2 = false) : psh (psh st x) a = psh st a := by
  cases hc : cov x st with
  | true =>
    have : psh st x = st := by unfold psh; rw [hc]; rfl
    rw [this]
  | false =>
    have e1 : psh st x = x :: st := by
      unfold psh pops
      rw [hc, hm]
      rfl
    rw [e1]
    have hca : cov a st = false := by
      rw [Bool.eq_false_iff]
      intro z
      cases st with
      | nil => cases z
      | cons b r =>
        have h2 : b.2 = true ∧ sub a b = true := by simpa [cov] using z
        have : cov x (b :: r) = true := by simp [cov, h2.1, sub_trans hx h2.2]
        rw [this] at hc
        cases hc
    unfold psh
    have h3 : cov a (x :: st) = false := by simp [cov, hm]
    rw [h3, hca]
    simp only [Bool.false_eq_true, if_false]
    unfold pops
    simp only [ha, if_true]
    rw [List.dropWhile_cons, hx]
    rfl
/-- ahead of and behind a many one, things that it takes in -/
theorem psh_more {a : At} (ha : a.2 = true) : ∀ (m : List At) (st : List At), (∀ x ∈ m, sub x a = true ∧ (x.2 = false ∨ x = a)) → psh (m.foldl psh st) a = psh st a
  | [], _, _ => rfl
  | x :: m, st, h => by
    rw [List.foldl_cons, psh_more ha m _ fun y hy => h y (List.mem_cons_of_mem _ hy)]
    obtain ⟨h1, h2⟩ := h x List.mem_cons_self
    rcases h2 with h2 | h2
    · exact psh_one ha h1 h2
    · subst h2
      exact psh_cov ha h1
theorem psh_less {a : At} (ha : a.2 = true) : ∀ (m : List At) (st : List At), (∀ x ∈ m, sub x a = true) → m.foldl psh (psh st a) = psh st a
  | [], _, _ => rfl
  | x :: m, st, h => by
    rw [List.foldl_cons, psh_cov ha (h x List.mem_cons_self), psh_less ha m st fun y hy => h y (List.mem_cons_of_mem _ hy)]
theorem fold_blow {a : At} (ha : a.2 = true) (m n st : List At) (hm : ∀ x ∈ m, sub x a = true ∧ (x.2 = false ∨ x = a)) (hn : ∀ x ∈ n, sub x a = true) : (m ++ [a] ++ n).foldl psh st = psh st a := by
  rw [List.foldl_append, List.foldl_append]
  show n.foldl psh (psh (m.foldl psh st) a) = _
  rw [psh_more ha m st hm, psh_less ha n st hn]
/-! within both ways -/
theorem fits_sub {a b : At} : fits a.1 a.2 b = true ↔ sub a b = true ∧ (a.2 = true → b.2 = true) := by
  unfold fits sub
  cases a.2 <;> cases b.2 <;> simp
theorem fits_self (a : At) : fits a.1 a.2 a = true := fits_sub.mpr ⟨sub_refl a, fun h => h⟩
theorem lies_of_sub : ∀ {p q : List At}, p.Sublist q → lies p q = true
  | _, _, .slnil => rfl
  | p, _, .cons b h => lies_mono p _ [b] (lies_of_sub h)
  | _, _, .cons_cons (l₁ := p) (l₂ := q) a h => by
    rw [lies_go (seek_fit (fits_self a))]
    unfold nxt
    split
    · exact lies_mono p q [a] (lies_of_sub h)
    · exact lies_of_sub h
theorem lies_tr : ∀ (w one q : List At), lies w one = true → lies one q = true → lies w q = true
  | [], _, _, _, _ => by rw [lies]
  | a :: w, one, q, h1, h2 => by
    rcases seek_split a.1 a.2 one with ⟨q1, _⟩ | ⟨t, b, r, q1, q2, _, q4⟩
    · rw [lies_none q1] at h1; cases h1
    · rw [lies_go q1] at h1
      rw [q2] at h2
      obtain ⟨u, q3, e1, e2⟩ := lies_part t (b :: r) q h2
      rw [e1]
      refine lies_mono _ _ _ ?_
      rcases seek_split b.1 b.2 q3 with ⟨p1, _⟩ | ⟨u2, d, r2, p1, p2, _, p4⟩
      · rw [lies_none p1] at e2; cases e2
      · rw [lies_go p1] at e2
        rw [p2]
        refine lies_mono _ _ _ ?_
        have f1 := fits_sub.mp q4
        have f2 := fits_sub.mp p4
        have hfd : fits a.1 a.2 d = true := fits_sub.mpr ⟨sub_trans f1.1 f2.1, fun h => f2.2 (f1.2 h)⟩
        rw [lies_go (seek_fit hfd)]
        refine lies_tr w (nxt b r) _ h1 ?_
        cases hb : b.2 with
        | false =>
          have : nxt b r = r := by unfold nxt; rw [hb]; rfl
          rw [this]
          exact e2
        | true =>
          have hn : nxt b r = b :: r := by unfold nxt; rw [hb]; rfl
          have hnd : nxt d r2 = d :: r2 := by unfold nxt; rw [f2.2 hb]; rfl
          rw [hn, hnd, lies_go (seek_fit p4), hnd]
          rw [hnd] at e2
          exact e2
theorem seek_app {w : List Nat} {m : Bool} : ∀ {q t r : List At} {b : At}, seek w m q = b :: r → seek w m (q ++ t) = b :: (r ++ t)
  | [], t, r, b, h => by cases h
  | a :: q, t, r, b, h => by
    rw [List.cons_append, seek_cons]
    rw [seek_cons] at h
    split at h
    · rename_i hf
      cases h
      rw [if_pos hf]
    · rename_i hf
      rw [if_neg hf]
      exact seek_app h
theorem nxt_app {b : At} {r t : List At} : nxt b (r ++ t) = nxt b r ++ t := by unfold nxt; split <;> rfl
theorem lies_app : ∀ (p q r t : List At), lies p q = true → lies r t = true → lies (p ++ r) (q ++ t) = true
  | [], q, r, t, _, h => lies_mono r t q h
  | a :: p, q, r, t, h, k => by
    cases hs : seek a.1 a.2 q with
    | nil => rw [lies_none hs] at h; cases h
    | cons b u =>
      rw [lies_go hs] at h
      rw [List.cons_append, lies_go (seek_app hs), nxt_app]
      exact lies_app p _ r t h k
/-- the last one, a many one, takes what comes -/
theorem lies_last {a b : At} (ha : a.2 = true) (hb : sub b a = true) : ∀ (p s : List At), lies p (s ++ [a]) = true → lies (p ++ [b]) (s ++ [a]) = true
  | [], s, _ => by
    refine lies_mono _ _ s ?_
    rw [List.nil_append, lies_go (seek_fit (fits_sub.mpr ⟨hb, fun _ => ha⟩))]
    rfl
  | c :: p, s, h => by
    rcases seek_split c.1 c.2 (s ++ [a]) with ⟨q1, _⟩ | ⟨t, d, r, q1, q2, _, _⟩
    · rw [lies_none q1] at h; cases h
    · rw [lies_go q1] at h
      rw [List.cons_append, lies_go q1]
      have : ∃ s', nxt d r = s' ++ [a] := by
        rcases List.eq_nil_or_concat r with rfl | ⟨r', a', rfl⟩
        · have e := List.append_inj' (s₁ := s) (s₂ := t) (t₁ := [a]) (t₂ := [d]) q2 rfl
          have : d = a := (List.cons.inj e.2).1.symm
          subst this
          exact ⟨[], by unfold nxt; rw [if_pos ha]; rfl⟩
        · have e : s ++ [a] = (t ++ d :: r') ++ [a'] := by rw [q2]; simp
          have e2 := (List.cons.inj (List.append_inj' e rfl).2).1
          subst e2
          unfold nxt
          split
          · exact ⟨d :: r', by simp⟩
          · exact ⟨r', by simp⟩
      obtain ⟨s', hs'⟩ := this
      rw [hs'] at h ⊢
      exact lies_last ha hb p s' h
theorem lies_all {a : At} (ha : a.2 = true) : ∀ (p : List At), (∀ x ∈ p, sub x a = true) → lies p [a] = true
  | [], _ => rfl
  | b :: p, h => by
    rw [lies_go (seek_fit (fits_sub.mpr ⟨h b List.mem_cons_self, fun _ => ha⟩))]
    have : nxt a [] = [a] := by unfold nxt; rw [if_pos ha]
    rw [this]
    exact lies_all ha p fun x hx => h x (List.mem_cons_of_mem _ hx)
theorem tw_mem {a x : At} : ∀ {st : List At}, x ∈ (st.takeWhile fun b => sub b a) → sub x a = true
  | [], h => nomatch h
  | b :: st, h => by
    rw [List.takeWhile_cons] at h
    split at h
    · rename_i hb
      rcases List.mem_cons.mp h with rfl | h
      · exact hb
      · exact tw_mem h
    · exact nomatch h
theorem psh_lies {p st : List At} {a : At} (h : lies p st.reverse = true) : lies (p ++ [a]) (psh st a).reverse = true := by
  unfold psh
  cases hc : cov a st with
  | true =>
    simp only [if_true]
    cases st with
    | nil => cases hc
    | cons b r =>
      have h2 : b.2 = true ∧ sub a b = true := by simpa [cov] using hc
      rw [List.reverse_cons] at h ⊢
      exact lies_last h2.1 h2.2 p _ h
  | false =>
    simp only [Bool.false_eq_true, if_false]
    rw [List.reverse_cons]
    unfold pops
    cases ha : a.2 with
    | false =>
      simp only [Bool.false_eq_true, if_false]
      exact lies_app p _ [a] [a] h (lies_of_sub (List.Sublist.refl _))
    | true =>
      simp only [if_true]
      refine lies_last ha (sub_refl a) p _ (lies_tr p _ _ h ?_)
      have e : st.reverse = (st.dropWhile fun b => sub b a).reverse ++ (st.takeWhile fun b => sub b a).reverse := by
        rw [← List.reverse_append, List.takeWhile_append_dropWhile]
      rw [e]
      refine lies_app _ _ _ _ (lies_of_sub (List.Sublist.refl _)) (lies_all ha _ fun x hx => ?_)
      exact tw_mem (List.mem_reverse.mp hx)
theorem fold_lies : ∀ (p q st : List At), lies q st.reverse = true → lies (q ++ p) (p.foldl psh st).reverse = true
  | [], q, st, h => by rw [List.append_nil]; exact h
  | a :: p, q, st, h => by
    have := fold_lies p (q ++ [a]) (psh st a) (psh_lies h)
    rw [List.append_assoc] at this
    exact this
theorem mp_lies (p : List At) : lies p (mp p) = true := fold_lies p [] [] rfl
end Pl

set_option maxHeartbeats 4000000
/-! Products made plain: the walks. -/
namespace Pl
open PySem L2
/-- made_plain: product kept letters many -/
def f_made_plain : Fn := ⟨1, 4, [
  .asg 1 (.new (.lst [])),
  .for_ [2, 3] true (.sq (.ex (.var 0))) [.if_ (.or_ (.cmp .eq (.var 1) (.frn (.lst []))) (.not_ (.and_ (.ex (.idx (.idx (.var 1) (.neg (.cst (.int 1)))) (.cst (.int 1)))) (.ex (.calls 0 true 106 [(.var 2), (.idx (.idx (.var 1) (.neg (.cst (.int 1)))) (.cst (.int 0)))]))))) [.while_ (.and_ (.ex (.var 3)) (.and_ (.cmp .ne (.var 1) (.frn (.lst []))) (.ex (.calls 0 true 106 [(.idx (.idx (.var 1) (.neg (.cst (.int 1)))) (.cst (.int 0))), (.var 2)])))) [.expr (.lm .pop (.var 1) [])], .expr (.app (.var 1) (.tup [(.var 2), (.var 3)]))] []],
  .ret (.tupq (.ex (.var 1)))]⟩
/-- plain: product -/
def f_plain : Fn := ⟨1, 1, [
  .expr (.calls 0 false 128 [(.var 0)]),
  .ret (.calls 0 false 129 [(.var 0)])]⟩
/-- _law_is_plain: _law_product_here _law_one _law_other _law_letter -/
def f__law_is_plain : Fn := ⟨1, 4, [
  .for_ [1, 2] true (.zip (.ex (.var 0)) (.ex (.sli (.var 0) (some (.cst (.int 1))) none))) [.if_ (.and_ (.ex (.idx (.var 2) (.cst (.int 1)))) (.ex (.all_ (.fr (.lc [("_law_letter", 3)] [3] false (.str (.idx (.var 1) (.cst (.int 0)))) none (.cmp .isin (.var 3) (.idx (.var 2) (.cst (.int 0))))))))) [.ret (.cst (.bl false))] [], .if_ (.and_ (.ex (.idx (.var 1) (.cst (.int 1)))) (.ex (.all_ (.fr (.lc [("_law_letter", 3)] [3] false (.str (.idx (.var 2) (.cst (.int 0)))) none (.cmp .isin (.var 3) (.idx (.var 1) (.cst (.int 0))))))))) [.ret (.cst (.bl false))] []],
  .ret (.cst (.bl true))]⟩
/-- _law_blown: _law_bag_here _law_product_here _law_found _law_letters_here _law_many _law_spare _law_kind _law_more -/
def f__law_blown : Fn := ⟨2, 8, [
  .asg 2 (.tup []),
  .for_ [3, 4] true (.sq (.ex (.var 1))) [.asg 5 (.bin .mul (.tup [(.tup [(.sli (.var 3) none (some (.cst (.int 1)))), (.cst (.bl false))])]) (.intb (.var 4))), .asg 6 (.calls 2 false 2 [(.var 0), (.cst (.int 4))]), .asg 7 (.idx (.frn (.lst [(.tup []), (.var 5), (.bin .mul (.tup [(.tup [(.var 3), (.var 4)])]) (.intb (.var 4))), (.bin .add (.var 5) (.var 5))])) (.var 6)), .asg 2 (.bin .add (.bin .add (.bin .add (.var 2) (.var 7)) (.tup [(.tup [(.var 3), (.var 4)])])) (.sli (.var 7) none (some (.calls 2 false 2 [(.var 0), (.cst (.int 2))]))))],
  .ret (.var 2)]⟩

section
variable {T : Tab} {G : Nat → Option D} {C : Nat → List D → Sto → R D}
/-! ### equality with [] of data with truths -/
def dw : Nat → D → Prop
  | 0, _ => False
  | n + 1, d => match d with
    | .non => True | .int _ => True | .bl _ => True
    | .str x => tOk x
    | .tup ds => ∀ x ∈ ds, dw n x
    | .fro ds => ∀ x ∈ ds, dw n x
    | _ => False
theorem dws_pd {g : Nat → Option PyData} {n : Nat} (ih : ∀ d, dw n d → ∃ p, pdR g d = some p ∧ PyData.canLay0 p = true ∧ PyData.depth p ≤ n) : ∀ ds : List D, (∀ x ∈ ds, dw n x) → ∃ ps, pdRs g ds = some ps ∧ PyData.canLayAll0 ps = true ∧ PyData.depthAll ps ≤ n
  | [], _ => ⟨[], rfl, rfl, Nat.zero_le _⟩
  | d :: ds, h => by
    obtain ⟨p, p1, p2, p3⟩ := ih d (h d (List.mem_cons_self ..))
    obtain ⟨ps, h1, h2, h3⟩ := dws_pd ih ds fun x hx => h x (List.mem_cons_of_mem _ hx)
    exact ⟨p :: ps, by simp only [pdRs, p1, h1], by simp [PyData.canLayAll0, p2, h2], by simp only [PyData.depthAll]; omega⟩
theorem dw_pd {g : Nat → Option PyData} : ∀ (n : Nat) (d : D), dw n d → ∃ p, pdR g d = some p ∧ PyData.canLay0 p = true ∧ PyData.depth p ≤ n
  | 0, _, h => h.elim
  | n + 1, d, h => by
    cases d <;> first
      | exact False.elim h
      | skip
    case non => exact ⟨_, rfl, rfl, by simp [PyData.depth]⟩
    case bl i => exact ⟨_, rfl, rfl, by simp [PyData.depth]⟩
    case int i => exact ⟨_, rfl, rfl, by simp [PyData.depth]⟩
    case str x => exact ⟨_, rfl, strOk_of h, by simp [PyData.depth]⟩
    case tup ds =>
      obtain ⟨ps, h1, h2, h3⟩ := dws_pd (g := g) (dw_pd n) ds h
      exact ⟨.tuple ps, by simp only [pdR, h1, Option.map_some], h2, by simp only [PyData.depth]; omega⟩
    case fro ds =>
      obtain ⟨ps, h1, h2, h3⟩ := dws_pd (g := g) (dw_pd n) ds h
      exact ⟨.list ps, by simp only [pdR, h1, Option.map_some], h2, by simp only [PyData.depth]; omega⟩
theorem eqV_hw {neg : Bool} {n : Nat} {ds : List D} {S : Sto} (hs : S[n]? = some (.lst ds)) (hd : ∀ x ∈ ds, dw 5 x) : eqV neg (.ref n) (.fro []) S = .ok (.bl (ds.isEmpty ^^ neg)) S := by
  unfold eqV
  obtain ⟨ps, h1, h2, h3⟩ := dws_pd (g := pdN S 3) (dw_pd 5) ds hd
  have e1 : pd S (.ref n) = some (.list ps) := by
    show pdN S 4 n = _
    unfold pdN
    rw [hs]
    show (pdRs (pdN S 3) ds).map PyData.list = _
    rw [h1]
    rfl
  have e2 : pd S (.fro []) = some (.list []) := rfl
  have s1 : SeqAt.shaped (.list ps) = true := by
    unfold SeqAt.shaped
    rw [show PyData.canLay0 (.list ps) = PyData.canLayAll0 ps by simp only [PyData.canLay0], h2, Bool.true_and, decide_eq_true_eq]
    simp only [PyData.depth]
    omega
  have s2 : SeqAt.shaped (.list []) = true := by decide
  show (match pd S (.ref n), pd S (.fro []) with | some x, some y => _ | _, _ => _) = _
  rw [e1, e2]
  show (if (SeqAt.shaped (.list ps) && SeqAt.shaped (.list [])) = true then _ else _) = _
  rw [if_pos (by rw [s1, s2] <;> rfl)]
  cases ds with
  | nil => cases h1; rfl
  | cons d r =>
    simp only [pdRs] at h1
    split at h1
    · cases h1; rfl
    · cases h1
theorem eq_hw {n : Nat} {ds : List D} {S : Sto} (hs : S[n]? = some (.lst ds)) (hd : ∀ x ∈ ds, dw 5 x) : cmpV .eq (.ref n) (.fro []) S = .ok (.bl ds.isEmpty) S := by
  have := eqV_hw (neg := false) hs hd
  rw [Bool.xor_false] at this
  exact this
theorem ne_hw {n : Nat} {ds : List D} {S : Sto} (hs : S[n]? = some (.lst ds)) (hd : ∀ x ∈ ds, dw 5 x) : cmpV .ne (.ref n) (.fro []) S = .ok (.bl (!ds.isEmpty)) S := by
  have := eqV_hw (neg := true) hs hd
  rw [Bool.xor_true] at this
  exact this
theorem dw_At {a : At} (h : AtOk a) : dw 5 (dAt a) := fun x hx => by
  simp only [List.mem_cons, List.not_mem_nil, or_false] at hx
  rcases hx with rfl | rfl
  · exact h.lt.tOk
  · exact trivial
/-! ### while -/
theorem wt_whl {c : Slo → Sto → R Bool} {f : Slo → Sto → O} {E : Ed} (I : Nat → Slo → Sto → Prop)
    (h : ∀ k ρ S, I k ρ S → Wr (c ρ S) (fun b S1 => match b with | true => ∃ j, k = j + 1 ∧ Wt (f ρ S1) ⟨I j, E.nx, I j, E.rt, E.xc⟩ | false => E.nx ρ S1) E.xc) : ∀ (n k : Nat) (ρ : Slo) (S : Sto), k < n → I k ρ S → Wt (whl c f n ρ S) E
  | 0, k, _, _, hk, _ => absurd hk (Nat.not_lt_zero _)
  | n + 1, k, ρ, S, hk, hI => by
    unfold whl
    rw [wt_o]
    refine (h k ρ S hI).mono (fun b S1 hb => ?_) fun _ _ z => z
    cases b with
    | false => exact hb
    | true =>
      obtain ⟨j, rfl, hw⟩ := hb
      show Wt ((f ρ S1).turn _) E
      rw [wt_turn]
      exact hw.mono (fun ρ2 S2 h2 => wt_whl I h n j ρ2 S2 (by omega) h2) (fun _ _ z => z) (fun ρ2 S2 h2 => wt_whl I h n j ρ2 S2 (by omega) h2) (fun _ _ z => z) fun _ _ z => z
theorem scp_true {r : List D → Sto → R D} {ds : List D} {S : Sto} {d : D} (hc : closedL 0 ds = true) (h : scp 0 false r ds S = .ok d S) (hd : noF d = true) : scp 0 true r ds S = .ok d S := by
  unfold scp at h ⊢
  simp only [List.take_zero, hc, if_true, Bool.false_eq_true, if_false] at h
  simp only [List.take_zero, mapO_cl hc, if_true]
  split at h
  · rename_i hg
    rw [if_pos hg]
    cases hr : r ds [] with
    | ok v S1 =>
      rw [hr] at h
      simp only at h ⊢
      cases hf : frz S1 0 6 v with
      | none => rw [hf] at h; cases h
      | some d' =>
        rw [hf] at h
        simp [closedS] at h ⊢
        subst h
        simp [noFS, hd]
    | exc x S1 =>
      rw [hr] at h
      simp [closedS] at h
      split at h <;> cases h
    | bad => rw [hr] at h; cases h
  · cases h
theorem atI_last {α : Type} {xs : List α} {d : α} : L2.atI (xs ++ [d]) (-1) = some d := by
  unfold L2.atI L2.ixN
  rw [if_neg (by decide), if_pos (by rw [List.length_append, List.length_singleton]; omega)]
  show (xs ++ [d])[_]? = _
  rw [List.length_append, List.length_singleton, show (-1 + ((xs.length + 1 : Nat) : Int)).toNat = xs.length by omega]
  simp
theorem lst_pop {n : Nat} {d : D} {ds : List D} {S : Sto} (hs : S[n]? = some (.lst (ds ++ [d]))) : lmV .pop n [] S = .ok d (S.set n (.lst ds)) := by
  unfold lmV
  simp only [hs]
  rw [show (ds ++ [d])[(ds ++ [d]).length - 1]? = some d by simp]
  simp
def SpMade (C : Nat → List D → Sto → R D) : Prop := ∀ (p : List At) (S : Sto), PrOk p → scp 0 false (C 129) [dP p] S = .ok (dP (mp p)) S
theorem made_ok (hT : T 129 = some f_made_plain) {k : Nat} (hH : SpHasAll (run T G k)) : SpMade (run T G (k + 1)) := fun p S hp => by
  refine pur hT rfl (by show (closedD 0 (dP p) && true) = true; rw [cl_P]; rfl) ?_ S
  show Wt (exs _ _ f_made_plain.body [some (.tup (p.map dAt)), none, none, none] []) _
  unfold f_made_plain
  have hpl := hp.len
  have hHa : ∀ (a b : List Nat) (S : Sto), a.length ≤ 100000 → scp 0 true (run T G k 106) [.str a, .str b] S = .ok (.bl (a.all fun c => decide (c ∈ b))) S := fun a b S h => scp_true rfl (hH a b S h) rfl
  rw [wt_cons]
  simp only [ev, evs, evo, evT, evto, evF, evQ, evI, ex, wr_bind, wr_ok, wr_exc, wt_o, wt_seq, wt_turn, wt_next, wt_brk, wt_cont, wt_ret, wt_exc, Pl.R.bind_ok, Pl.R.o_ok, Pl.R.bind_exc, Pl.R.o_exc, List.getElem?_cons_zero, List.getElem?_cons_succ, List.set_cons_zero, List.set_cons_succ, List.length_nil, Nat.zero_le, if_true]
  rw [wt_cons]
  simp only [ev, evs, evo, evT, evto, evF, evQ, evI, ex, wr_bind, wr_ok, wr_exc, wt_o, wt_seq, wt_turn, wt_next, wt_brk, wt_cont, wt_ret, wt_exc, Pl.R.bind_ok, Pl.R.o_ok, Pl.R.bind_exc, Pl.R.o_exc, List.getElem?_cons_zero, List.getElem?_cons_succ, List.set_cons_zero, List.set_cons_succ, seqV]
  refine for_map (e := dAt) (fun i ρ S' => ∃ (y z : Option D), ρ = [some (.tup (p.map dAt)), some (.ref 0), y, z] ∧ S' = [.lst (((p.take i).foldl psh []).reverse.map dAt)]) ⟨none, none, rfl, rfl⟩ (fun i a ρ S' hd hI => ?_) (fun ρ S' hI => ?_)
  · obtain ⟨y, z, rfl, rfl⟩ := hI
    have ha := hp.ok a (List.mem_of_getElem? hd)
    have et : p.take (i + 1) = p.take i ++ [a] := by rw [List.take_add_one, hd]; rfl
    rw [et, List.foldl_append]
    show ∃ ρ1, _ ∧ Wt _ ⟨fun ρ S' => ∃ (y z : Option D), ρ = [some (.tup (p.map dAt)), some (.ref 0), y, z] ∧ S' = [.lst ((psh ((p.take i).foldl psh []) a).reverse.map dAt)], _, fun ρ S' => ∃ (y z : Option D), ρ = [some (.tup (p.map dAt)), some (.ref 0), y, z] ∧ S' = [.lst ((psh ((p.take i).foldl psh []) a).reverse.map dAt)], _, _⟩
    have hok : ∀ x ∈ (p.take i).foldl psh [], AtOk x := fun x hx => by
      have := (fold_sub (p.take i) []).subset hx
      rw [List.append_nil] at this
      exact hp.ok x (List.mem_of_mem_take (List.mem_reverse.mp this))
    have hsl : ((p.take i).foldl psh []).length ≤ 1000 := by
      have := (fold_sub (p.take i) []).length_le
      rw [List.append_nil, List.length_reverse, List.length_take] at this
      omega
    generalize (p.take i).foldl psh [] = st at hok hsl
    obtain ⟨w, m⟩ := a
    have hwl : w.length ≤ 100 := ha.len
    refine ⟨[some (.tup (p.map dAt)), some (.ref 0), some (.str w), some (.bl m)], rfl, ?_⟩
    have hdw : ∀ {s : List At}, (∀ x ∈ s, AtOk x) → ∀ x ∈ s.reverse.map dAt, dw 5 x := fun {s} h x hx => by
      obtain ⟨b, hb, rfl⟩ := List.mem_map.mp hx
      exact dw_At (h b (List.mem_reverse.mp hb))
    have hlast : ∀ (bw : List Nat) (bm : Bool) (r : List At), idxV (.ref 0) (.int (-1)) [.lst (((bw, bm) :: r).reverse.map dAt)] = .ok (dAt (bw, bm)) [.lst (((bw, bm) :: r).reverse.map dAt)] := fun bw bm r => idxV_lst rfl (by rw [List.reverse_cons, List.map_append]; exact atI_last)
    rw [wt_cons]
    -- the push
    have push : cov (w, m) st = false → Wt (exs (run T G k) G [.while_ (.and_ (.ex (.var 3)) (.and_ (.cmp .ne (.var 1) (.frn (.lst []))) (.ex (.calls 0 true 106 [(.idx (.idx (.var 1) (.neg (.cst (.int 1)))) (.cst (.int 0))), (.var 2)])))) [.expr (.lm .pop (.var 1) [])], .expr (.app (.var 1) (.tup [(.var 2), (.var 3)]))] [some (.tup (p.map dAt)), some (.ref 0), some (.str w), some (.bl m)] [.lst (st.reverse.map dAt)])
        ⟨fun ρ S' => ∃ (y z : Option D), ρ = [some (.tup (p.map dAt)), some (.ref 0), y, z] ∧ S' = [.lst ((psh st (w, m)).reverse.map dAt)], no2, no2, no2, no2⟩ := fun hc => by
      rw [wt_cons]
      simp only [ev, evs, evo, evT, evto, evF, evQ, evI, ex, wr_bind, wr_ok, wr_exc, wt_o, wt_seq, wt_turn, wt_next, wt_brk, wt_cont, wt_ret, wt_exc, Pl.R.bind_ok, Pl.R.o_ok, Pl.R.bind_exc, Pl.R.o_exc, List.getElem?_cons_zero, List.getElem?_cons_succ, List.set_cons_zero, List.set_cons_succ]
      refine wt_whl (fun j ρ S' => ∃ s : List At, ρ = [some (.tup (p.map dAt)), some (.ref 0), some (.str w), some (.bl m)] ∧ S' = [.lst (s.reverse.map dAt)] ∧ s.length = j ∧ (∀ x ∈ s, AtOk x) ∧ pops (w, m) s = pops (w, m) st) (fun j ρ S' hI => ?_) fuel st.length _ _ (Nat.lt_of_le_of_lt hsl (by decide)) ⟨st, rfl, rfl, rfl, hok, rfl⟩
      obtain ⟨s, rfl, rfl, hk, hso, hps⟩ := hI
      have hsn : s.length ≤ 1000 ∨ True := .inr trivial
      have fin : s = pops (w, m) st → Wt (exs (run T G k) G [.expr (.app (.var 1) (.tup [(.var 2), (.var 3)]))] [some (.tup (p.map dAt)), some (.ref 0), some (.str w), some (.bl m)] [.lst (s.reverse.map dAt)]) ⟨fun ρ S' => ∃ (y z : Option D), ρ = [some (.tup (p.map dAt)), some (.ref 0), y, z] ∧ S' = [.lst ((psh st (w, m)).reverse.map dAt)], no2, no2, no2, no2⟩ := fun e => by
        have hsl2 : s.length ≤ 1000 := by
          have : s.length ≤ st.length := by
            rw [e]
            unfold pops
            split
            · exact (List.dropWhile_sublist _).length_le
            · exact Nat.le_refl _
          omega
        rw [wt_cons]
        simp only [ev, evs, evo, evT, evto, evF, evQ, evI, ex, wr_bind, wr_ok, wr_exc, wt_o, wt_seq, wt_turn, wt_next, wt_brk, wt_cont, wt_ret, wt_exc, Pl.R.bind_ok, Pl.R.o_ok, Pl.R.bind_exc, Pl.R.o_exc, List.getElem?_cons_zero, List.getElem?_cons_succ, List.set_cons_zero, List.set_cons_succ]
        rw [if_pos (by show 2 ≤ 100000; omega)]
        simp only [ev, evs, evo, evT, evto, evF, evQ, evI, ex, wr_bind, wr_ok, wr_exc, wt_o, wt_seq, wt_turn, wt_next, wt_brk, wt_cont, wt_ret, wt_exc, Pl.R.bind_ok, Pl.R.o_ok, Pl.R.bind_exc, Pl.R.o_exc, List.getElem?_cons_zero, List.getElem?_cons_succ, List.set_cons_zero, List.set_cons_succ]
        rw [if_pos (by rw [List.length_map, List.length_reverse]; show _ < 100000; omega)]
        simp only [ev, evs, evo, evT, evto, evF, evQ, evI, ex, wr_bind, wr_ok, wr_exc, wt_o, wt_seq, wt_turn, wt_next, wt_brk, wt_cont, wt_ret, wt_exc, Pl.R.bind_ok, Pl.R.o_ok, Pl.R.bind_exc, Pl.R.o_exc, List.getElem?_cons_zero, List.getElem?_cons_succ, List.set_cons_zero, List.set_cons_succ]
        rw [wt_nil]
        have : psh st (w, m) = (w, m) :: s := by unfold psh; rw [hc, if_neg Bool.false_ne_true, e]
        refine ⟨_, _, rfl, ?_⟩
        rw [this, List.reverse_cons, List.map_append]
        rfl
      cases m with
      | false =>
        simp only [ev, evs, evo, evT, evto, evF, evQ, evI, ex, wr_bind, wr_ok, wr_exc, wt_o, wt_seq, wt_turn, wt_next, wt_brk, wt_cont, wt_ret, wt_exc, Pl.R.bind_ok, Pl.R.o_ok, Pl.R.bind_exc, Pl.R.o_exc, List.getElem?_cons_zero, List.getElem?_cons_succ, List.set_cons_zero, List.set_cons_succ, truV]
        exact fin ((show s = pops (w, false) s by unfold pops; rfl).trans hps)
      | true =>
        cases s with
        | nil =>
          simp only [ev, evs, evo, evT, evto, evF, evQ, evI, ex, wr_bind, wr_ok, wr_exc, wt_o, wt_seq, wt_turn, wt_next, wt_brk, wt_cont, wt_ret, wt_exc, Pl.R.bind_ok, Pl.R.o_ok, Pl.R.bind_exc, Pl.R.o_exc, List.getElem?_cons_zero, List.getElem?_cons_succ, List.set_cons_zero, List.set_cons_succ, truV, List.length_nil, Nat.zero_le, if_true]
          rw [ne_hw (ds := ([] : List At).reverse.map dAt) rfl (hdw hso)]
          exact fin ((show ([] : List At) = pops (w, true) [] from rfl).trans hps)
        | cons b r =>
          obtain ⟨bw, bm⟩ := b
          have hbl : bw.length ≤ 100 := (hso (bw, bm) List.mem_cons_self).len
          simp only [ev, evs, evo, evT, evto, evF, evQ, evI, ex, wr_bind, wr_ok, wr_exc, wt_o, wt_seq, wt_turn, wt_next, wt_brk, wt_cont, wt_ret, wt_exc, Pl.R.bind_ok, Pl.R.o_ok, Pl.R.bind_exc, Pl.R.o_exc, List.getElem?_cons_zero, List.getElem?_cons_succ, List.set_cons_zero, List.set_cons_succ, truV, List.length_nil, Nat.zero_le, if_true]
          rw [ne_hw (ds := ((bw, bm) :: r).reverse.map dAt) rfl (hdw hso)]
          have hne : (((bw, bm) :: r).reverse.map dAt).isEmpty = false := by simp
          have hlast2 := hlast bw bm r
          have hh := fun S => hHa bw w S (by omega)
          have hsb : (bw.all fun c => decide (c ∈ w)) = sub (bw, bm) (w, true) := rfl
          rw [hne]
          simp only [Bool.not_false, ev, evs, evo, evT, evto, evF, evQ, evI, ex, wr_bind, wr_ok, wr_exc, wt_o, wt_seq, wt_turn, wt_next, wt_brk, wt_cont, wt_ret, wt_exc, Pl.R.bind_ok, Pl.R.o_ok, Pl.R.bind_exc, Pl.R.o_exc, List.getElem?_cons_zero, List.getElem?_cons_succ, List.set_cons_zero, List.set_cons_succ, hlast2, at_0, hh, truV, hsb]
          cases hs : sub (bw, bm) (w, true) with
          | false =>
            refine fin (Eq.trans ?_ hps)
            unfold pops
            rw [if_pos rfl, List.dropWhile_cons, hs]
            rfl
          | true =>
            refine ⟨r.length, by rw [← hk]; rfl, ?_⟩
            rw [wt_cons]
            have hpp : ∀ S, S = [Ob.lst (((bw, bm) :: r).reverse.map dAt)] → lmV .pop 0 [] S = .ok (dAt (bw, bm)) [.lst (r.reverse.map dAt)] := fun S e => by
              subst e
              have := lst_pop (n := 0) (d := dAt (bw, bm)) (ds := r.reverse.map dAt) (S := [Ob.lst (((bw, bm) :: r).reverse.map dAt)]) (by rw [List.reverse_cons, List.map_append]; rfl)
              exact this
            simp only [ev, evs, evo, evT, evto, evF, evQ, evI, ex, wr_bind, wr_ok, wr_exc, wt_o, wt_seq, wt_turn, wt_next, wt_brk, wt_cont, wt_ret, wt_exc, Pl.R.bind_ok, Pl.R.o_ok, Pl.R.bind_exc, Pl.R.o_exc, List.getElem?_cons_zero, List.getElem?_cons_succ, List.set_cons_zero, List.set_cons_succ, hpp _ rfl]
            rw [wt_nil]
            refine ⟨r, rfl, rfl, rfl, fun x hx => hso x (List.mem_cons_of_mem _ hx), Eq.trans ?_ hps⟩
            unfold pops
            rw [if_pos rfl, if_pos rfl, List.dropWhile_cons, hs]
            rfl
    cases st with
    | nil =>
      simp only [ev, evs, evo, evT, evto, evF, evQ, evI, ex, wr_bind, wr_ok, wr_exc, wt_o, wt_seq, wt_turn, wt_next, wt_brk, wt_cont, wt_ret, wt_exc, Pl.R.bind_ok, Pl.R.o_ok, Pl.R.bind_exc, Pl.R.o_exc, List.getElem?_cons_zero, List.getElem?_cons_succ, List.set_cons_zero, List.set_cons_succ, truV, List.length_nil, Nat.zero_le, if_true]
      rw [eq_hw (ds := ([] : List At).reverse.map dAt) rfl (hdw hok)]
      simp only [List.reverse_nil, List.map_nil, List.isEmpty_nil, ev, evs, evo, evT, evto, evF, evQ, evI, ex, wr_bind, wr_ok, wr_exc, wt_o, wt_seq, wt_turn, wt_next, wt_brk, wt_cont, wt_ret, wt_exc, Pl.R.bind_ok, Pl.R.o_ok, Pl.R.bind_exc, Pl.R.o_exc, List.getElem?_cons_zero, List.getElem?_cons_succ, List.set_cons_zero, List.set_cons_succ]
      refine (push rfl).mono (fun ρ S h => ?_) (fun _ _ z => z.elim) (fun _ _ z => z.elim) (fun _ _ z => z.elim) fun _ _ z => z.elim
      exact h
    | cons b r =>
      obtain ⟨bw, bm⟩ := b
      simp only [ev, evs, evo, evT, evto, evF, evQ, evI, ex, wr_bind, wr_ok, wr_exc, wt_o, wt_seq, wt_turn, wt_next, wt_brk, wt_cont, wt_ret, wt_exc, Pl.R.bind_ok, Pl.R.o_ok, Pl.R.bind_exc, Pl.R.o_exc, List.getElem?_cons_zero, List.getElem?_cons_succ, List.set_cons_zero, List.set_cons_succ, truV, List.length_nil, Nat.zero_le, if_true]
      rw [eq_hw (ds := ((bw, bm) :: r).reverse.map dAt) rfl (hdw hok)]
      have hne : (((bw, bm) :: r).reverse.map dAt).isEmpty = false := by simp
      have hlast2 := hlast bw bm r
      have hh := fun S => hHa w bw S (by omega)
      have hsb : (w.all fun c => decide (c ∈ bw)) = sub (w, m) (bw, bm) := rfl
      rw [hne]
      simp only [ev, evs, evo, evT, evto, evF, evQ, evI, ex, wr_bind, wr_ok, wr_exc, wt_o, wt_seq, wt_turn, wt_next, wt_brk, wt_cont, wt_ret, wt_exc, Pl.R.bind_ok, Pl.R.o_ok, Pl.R.bind_exc, Pl.R.o_exc, List.getElem?_cons_zero, List.getElem?_cons_succ, List.set_cons_zero, List.set_cons_succ, hlast2, at_1, truV]
      cases bm with
      | false =>
        simp only [ev, evs, evo, evT, evto, evF, evQ, evI, ex, wr_bind, wr_ok, wr_exc, wt_o, wt_seq, wt_turn, wt_next, wt_brk, wt_cont, wt_ret, wt_exc, Pl.R.bind_ok, Pl.R.o_ok, Pl.R.bind_exc, Pl.R.o_exc, List.getElem?_cons_zero, List.getElem?_cons_succ, List.set_cons_zero, List.set_cons_succ, truV, Bool.not_false]
        refine (push rfl).mono (fun ρ S h => ?_) (fun _ _ z => z.elim) (fun _ _ z => z.elim) (fun _ _ z => z.elim) fun _ _ z => z.elim
        exact h
      | true =>
        simp only [ev, evs, evo, evT, evto, evF, evQ, evI, ex, wr_bind, wr_ok, wr_exc, wt_o, wt_seq, wt_turn, wt_next, wt_brk, wt_cont, wt_ret, wt_exc, Pl.R.bind_ok, Pl.R.o_ok, Pl.R.bind_exc, Pl.R.o_exc, List.getElem?_cons_zero, List.getElem?_cons_succ, List.set_cons_zero, List.set_cons_succ, hlast2, at_0, hh, truV, hsb]
        cases hs : sub (w, m) (bw, true) with
        | false =>
          simp only [ev, evs, evo, evT, evto, evF, evQ, evI, ex, wr_bind, wr_ok, wr_exc, wt_o, wt_seq, wt_turn, wt_next, wt_brk, wt_cont, wt_ret, wt_exc, Pl.R.bind_ok, Pl.R.o_ok, Pl.R.bind_exc, Pl.R.o_exc, List.getElem?_cons_zero, List.getElem?_cons_succ, List.set_cons_zero, List.set_cons_succ, Bool.not_false]
          refine (push (by show (true && sub (w, m) (bw, true)) = false; rw [hs]; rfl)).mono (fun ρ S h => ?_) (fun _ _ z => z.elim) (fun _ _ z => z.elim) (fun _ _ z => z.elim) fun _ _ z => z.elim
          exact h
        | true =>
          simp only [ev, evs, evo, evT, evto, evF, evQ, evI, ex, wr_bind, wr_ok, wr_exc, wt_o, wt_seq, wt_turn, wt_next, wt_brk, wt_cont, wt_ret, wt_exc, Pl.R.bind_ok, Pl.R.o_ok, Pl.R.bind_exc, Pl.R.o_exc, List.getElem?_cons_zero, List.getElem?_cons_succ, List.set_cons_zero, List.set_cons_succ, Bool.not_true]
          rw [wt_nil]
          try dsimp only
          try rw [wt_nil]
          have : psh ((bw, true) :: r) (w, m) = (bw, true) :: r := by
            unfold psh
            rw [show cov (w, m) ((bw, true) :: r) = true from by show (true && sub (w, m) (bw, true)) = true; rw [hs]; rfl]
            rfl
          rw [this]
          exact ⟨_, _, rfl, rfl⟩
  · obtain ⟨y, z, rfl, rfl⟩ := hI
    try dsimp only
    rw [wt_cons, List.take_length]
    simp only [ev, evs, evo, evT, evto, evF, evQ, evI, ex, wr_bind, wr_ok, wr_exc, wt_o, wt_seq, wt_turn, wt_next, wt_brk, wt_cont, wt_ret, wt_exc, Pl.R.bind_ok, Pl.R.o_ok, Pl.R.bind_exc, Pl.R.o_exc, List.getElem?_cons_zero, List.getElem?_cons_succ, List.set_cons_zero, List.set_cons_succ, seqV]
    exact frz_cl (cl_P (mp p))
theorem mp_ok {p : List At} (h : PrOk p) : PrOk (mp p) := prOk_sub h (mp_sub p)
def SpPlain (C : Nat → List D → Sto → R D) : Prop := ∀ (p : List At) (S : Sto), PrOk p → scp 0 false (C 144) [dP p] S = .ok (dP (mp p)) S
theorem plain_ok (hT : T 144 = some f_plain) {k : Nat} (hN : SpNeedProd (run T G k)) (hM : SpMade (run T G k)) : SpPlain (run T G (k + 1)) := fun p S hp => by
  refine pur hT rfl (by show (closedD 0 (dP p) && true) = true; rw [cl_P]; rfl) ?_ S
  show Wt (exs _ _ f_plain.body [some (dP p)] []) _
  unfold f_plain
  rw [wt_cons]
  simp only [ev, evs, evo, evT, evto, evF, evQ, evI, ex, wr_bind, wr_ok, wr_exc, wt_o, wt_seq, wt_turn, wt_next, wt_brk, wt_cont, wt_ret, wt_exc, Pl.R.bind_ok, Pl.R.o_ok, Pl.R.bind_exc, Pl.R.o_exc, List.getElem?_cons_zero, List.getElem?_cons_succ, List.set_cons_zero, List.set_cons_succ, hN p [] hp]
  rw [wt_cons]
  simp only [ev, evs, evo, evT, evto, evF, evQ, evI, ex, wr_bind, wr_ok, wr_exc, wt_o, wt_seq, wt_turn, wt_next, wt_brk, wt_cont, wt_ret, wt_exc, Pl.R.bind_ok, Pl.R.o_ok, Pl.R.bind_exc, Pl.R.o_exc, List.getElem?_cons_zero, List.getElem?_cons_succ, List.set_cons_zero, List.set_cons_succ, hM p [] hp]
  exact frz_cl (cl_P _)
theorem plB_drop {p : List At} {i : Nat} {x y : At} (hx : p[i]? = some x) (hy : p[i + 1]? = some y) : plB (p.drop i) = (okp x y && plB (p.drop (i + 1))) := by
  have h1 := (List.getElem?_eq_some_iff.mp hx)
  have h2 := (List.getElem?_eq_some_iff.mp hy)
  obtain ⟨l1, e1⟩ := h1
  obtain ⟨l2, e2⟩ := h2
  rw [List.drop_eq_getElem_cons l1, List.drop_eq_getElem_cons l2, e1, e2]
  rfl
def SpIsPlain (C : Nat → List D → Sto → R D) : Prop := ∀ (p : List At) (S : Sto), PrOk p → scp 0 false (C 145) [dP p] S = .ok (.bl (plB p)) S
theorem isplain_ok (hT : T 145 = some f__law_is_plain) (k : Nat) : SpIsPlain (run T G (k + 1)) := fun p S hp => by
  refine pur hT rfl (by show (closedD 0 (dP p) && true) = true; rw [cl_P]; rfl) ?_ S
  show Wt (exs _ _ f__law_is_plain.body [some (.tup (p.map dAt)), none, none, none] []) _
  unfold f__law_is_plain
  have hpl := hp.len
  rw [wt_cons]
  have hc1 : cutL (p.map dAt) (some 1) none = (p.drop 1).map dAt := by rw [show cutL (p.map dAt) (some 1) none = (p.map dAt).drop 1 from cut_from _ 1, List.map_drop]
  have hz : ((p.map dAt).zip ((p.drop 1).map dAt)).map (fun xy => D.tup [xy.1, xy.2]) = (p.zip (p.drop 1)).map fun xy : At × At => D.tup [dAt xy.1, dAt xy.2] := by
    rw [List.zip_map, List.map_map]
    rfl
  have hgrd : ∀ (q : R Sv) (S : Sto), grd [] S S q = q := fun q S => by
    unfold grd
    rw [if_pos fun n hn => nomatch hn]
  simp only [ev, evs, evo, evT, evto, evF, evQ, evI, ex, wr_bind, wr_ok, wr_exc, wt_o, wt_seq, wt_turn, wt_next, wt_brk, wt_cont, wt_ret, wt_exc, Pl.R.bind_ok, Pl.R.o_ok, Pl.R.bind_exc, Pl.R.o_exc, List.getElem?_cons_zero, List.getElem?_cons_succ, List.set_cons_zero, List.set_cons_succ, seqV, sli_tup, hc1, hgrd, if_true, hz, List.append_nil]
  refine for_map (fun i ρ S' => ∃ (x y z : Option D), ρ = [some (.tup (p.map dAt)), x, y, z] ∧ S' = [] ∧ plB p = plB (p.drop i)) ⟨none, none, none, rfl, rfl, rfl⟩ (fun i a ρ S' hd hI => ?_) (fun ρ S' hI => ?_)
  · obtain ⟨x, y, z, rfl, rfl, he⟩ := hI
    obtain ⟨u, v⟩ := a
    obtain ⟨z1, z2⟩ := List.getElem?_zip_eq_some.mp hd
    rw [List.getElem?_drop, Nat.add_comm] at z2
    rw [plB_drop z1 z2] at he
    have hu := hp.ok u (List.mem_of_getElem? z1)
    have hv := hp.ok v (List.mem_of_getElem? z2)
    obtain ⟨uw, um⟩ := u
    obtain ⟨vw, vm⟩ := v
    have hul : uw.length ≤ 100 := hu.len
    have hvl : vw.length ≤ 100 := hv.len
    refine ⟨[some (.tup (p.map dAt)), some (dAt (uw, um)), some (dAt (vw, vm)), z], rfl, ?_⟩
    have hF : okp (uw, um) (vw, vm) = (!(vm && (uw.all fun c => decide (c ∈ vw))) && !(um && (vw.all fun c => decide (c ∈ uw)))) := rfl
    rw [hF] at he
    have second : plB p = (!(um && (vw.all fun c => decide (c ∈ uw))) && plB (p.drop (i + 1))) → Wt (exs (run T G k) G ([.if_ (.and_ (.ex (.idx (.var 1) (.cst (.int 1)))) (.ex (.all_ (.fr (.lc [("_law_letter", 3)] [3] false (.str (.idx (.var 2) (.cst (.int 0)))) none (.cmp .isin (.var 3) (.idx (.var 1) (.cst (.int 0))))))))) [.ret (.cst (.bl false))] []]) [some (.tup (p.map dAt)), some (dAt (uw, um)), some (dAt (vw, vm)), z] []) ⟨fun ρ S' => ∃ (x y z : Option D), ρ = [some (.tup (p.map dAt)), x, y, z] ∧ S' = [] ∧ plB p = plB (p.drop (i + 1)), no2, no2, fun v S1 => frz S1 0 6 v = some (.bl (plB p)), no2⟩ := fun he => by
      rw [wt_cons]
      simp only [ev, evs, evo, evT, evto, evF, evQ, evI, ex, wr_bind, wr_ok, wr_exc, wt_o, wt_seq, wt_turn, wt_next, wt_brk, wt_cont, wt_ret, wt_exc, Pl.R.bind_ok, Pl.R.o_ok, Pl.R.bind_exc, Pl.R.o_exc, List.getElem?_cons_zero, List.getElem?_cons_succ, List.set_cons_zero, List.set_cons_succ, at_1, truV]
      cases um with
      | false =>
        simp only [ev, evs, evo, evT, evto, evF, evQ, evI, ex, wr_bind, wr_ok, wr_exc, wt_o, wt_seq, wt_turn, wt_next, wt_brk, wt_cont, wt_ret, wt_exc, Pl.R.bind_ok, Pl.R.o_ok, Pl.R.bind_exc, Pl.R.o_exc, List.getElem?_cons_zero, List.getElem?_cons_succ, List.set_cons_zero, List.set_cons_succ]
        rw [wt_nil]
        try dsimp only
        rw [wt_nil]
        exact ⟨_, _, _, rfl, rfl, by rw [he]; rfl⟩
      | true =>
        simp only [ev, evs, evo, evT, evto, evF, evQ, evI, ex, wr_bind, wr_ok, wr_exc, wt_o, wt_seq, wt_turn, wt_next, wt_brk, wt_cont, wt_ret, wt_exc, Pl.R.bind_ok, Pl.R.o_ok, Pl.R.bind_exc, Pl.R.o_exc, List.getElem?_cons_zero, List.getElem?_cons_succ, List.set_cons_zero, List.set_cons_succ, at_0]
        rw [if_pos (by rw [List.length_map]; show _ ≤ 100000; omega)]
        rw [lc_map (e := fun c : Nat => D.str [c]) (fun c => D.bl (decide (c ∈ uw))) vw (fun c hc => by
          simp only [List.map_cons, List.map_nil, wipeD, bindTg, ev, evs, evo, evT, evto, evF, evQ, evI, ex, wr_bind, wr_ok, wr_exc, wt_o, wt_seq, wt_turn, wt_next, wt_brk, wt_cont, wt_ret, wt_exc, Pl.R.bind_ok, Pl.R.o_ok, Pl.R.bind_exc, Pl.R.o_exc, List.getElem?_cons_zero, List.getElem?_cons_succ, List.set_cons_zero, List.set_cons_succ, at_0, in_one])]
        simp only [ev, evs, evo, evT, evto, evF, evQ, evI, ex, wr_bind, wr_ok, wr_exc, wt_o, wt_seq, wt_turn, wt_next, wt_brk, wt_cont, wt_ret, wt_exc, Pl.R.bind_ok, Pl.R.o_ok, Pl.R.bind_exc, Pl.R.o_exc, List.getElem?_cons_zero, List.getElem?_cons_succ, List.set_cons_zero, List.set_cons_succ, Bool.false_eq_true, if_false, bools_map, all_id, truV]
        cases h1 : (vw.all fun c => decide (c ∈ uw)) with
        | false =>
          simp only [ev, evs, evo, evT, evto, evF, evQ, evI, ex, wr_bind, wr_ok, wr_exc, wt_o, wt_seq, wt_turn, wt_next, wt_brk, wt_cont, wt_ret, wt_exc, Pl.R.bind_ok, Pl.R.o_ok, Pl.R.bind_exc, Pl.R.o_exc, List.getElem?_cons_zero, List.getElem?_cons_succ, List.set_cons_zero, List.set_cons_succ]
          rw [wt_nil]
          try dsimp only
          rw [wt_nil]
          exact ⟨_, _, _, rfl, rfl, by rw [he, h1]; rfl⟩
        | true =>
          simp only [ev, evs, evo, evT, evto, evF, evQ, evI, ex, wr_bind, wr_ok, wr_exc, wt_o, wt_seq, wt_turn, wt_next, wt_brk, wt_cont, wt_ret, wt_exc, Pl.R.bind_ok, Pl.R.o_ok, Pl.R.bind_exc, Pl.R.o_exc, List.getElem?_cons_zero, List.getElem?_cons_succ, List.set_cons_zero, List.set_cons_succ]
          rw [wt_cons]
          simp only [ev, evs, evo, evT, evto, evF, evQ, evI, ex, wr_bind, wr_ok, wr_exc, wt_o, wt_seq, wt_turn, wt_next, wt_brk, wt_cont, wt_ret, wt_exc, Pl.R.bind_ok, Pl.R.o_ok, Pl.R.bind_exc, Pl.R.o_exc, List.getElem?_cons_zero, List.getElem?_cons_succ, List.set_cons_zero, List.set_cons_succ]
          rw [he, h1]
          exact frz_cl rfl
    have go : plB p = (!(um && (vw.all fun c => decide (c ∈ uw))) && plB (p.drop (i + 1))) → ∀ E : Ed, E.nx = (fun ρ S' => ∃ (x y z : Option D), ρ = [some (.tup (p.map dAt)), x, y, z] ∧ S' = [] ∧ plB p = plB (p.drop (i + 1))) → E.rt = (fun v S1 => frz S1 0 6 v = some (.bl (plB p))) → Wt (exs (run T G k) G ([.if_ (.and_ (.ex (.idx (.var 1) (.cst (.int 1)))) (.ex (.all_ (.fr (.lc [("_law_letter", 3)] [3] false (.str (.idx (.var 2) (.cst (.int 0)))) none (.cmp .isin (.var 3) (.idx (.var 1) (.cst (.int 0))))))))) [.ret (.cst (.bl false))] []]) [some (.tup (p.map dAt)), some (dAt (uw, um)), some (dAt (vw, vm)), z] []) E := fun h E e1 e2 => (second h).mono (fun ρ S h => by rw [e1]; exact h) (fun _ _ z => z.elim) (fun _ _ z => z.elim) (fun v S h => by rw [e2]; exact h) fun _ _ z => z.elim
    rw [wt_cons]
    simp only [ev, evs, evo, evT, evto, evF, evQ, evI, ex, wr_bind, wr_ok, wr_exc, wt_o, wt_seq, wt_turn, wt_next, wt_brk, wt_cont, wt_ret, wt_exc, Pl.R.bind_ok, Pl.R.o_ok, Pl.R.bind_exc, Pl.R.o_exc, List.getElem?_cons_zero, List.getElem?_cons_succ, List.set_cons_zero, List.set_cons_succ, at_1, truV]
    cases vm with
    | false =>
      simp only [ev, evs, evo, evT, evto, evF, evQ, evI, ex, wr_bind, wr_ok, wr_exc, wt_o, wt_seq, wt_turn, wt_next, wt_brk, wt_cont, wt_ret, wt_exc, Pl.R.bind_ok, Pl.R.o_ok, Pl.R.bind_exc, Pl.R.o_exc, List.getElem?_cons_zero, List.getElem?_cons_succ, List.set_cons_zero, List.set_cons_succ]
      rw [wt_nil]
      try dsimp only
      exact go he _ rfl rfl
    | true =>
      simp only [ev, evs, evo, evT, evto, evF, evQ, evI, ex, wr_bind, wr_ok, wr_exc, wt_o, wt_seq, wt_turn, wt_next, wt_brk, wt_cont, wt_ret, wt_exc, Pl.R.bind_ok, Pl.R.o_ok, Pl.R.bind_exc, Pl.R.o_exc, List.getElem?_cons_zero, List.getElem?_cons_succ, List.set_cons_zero, List.set_cons_succ, at_0]
      rw [if_pos (by rw [List.length_map]; show _ ≤ 100000; omega)]
      rw [lc_map (e := fun c : Nat => D.str [c]) (fun c => D.bl (decide (c ∈ vw))) uw (fun c hc => by
        simp only [List.map_cons, List.map_nil, wipeD, bindTg, ev, evs, evo, evT, evto, evF, evQ, evI, ex, wr_bind, wr_ok, wr_exc, wt_o, wt_seq, wt_turn, wt_next, wt_brk, wt_cont, wt_ret, wt_exc, Pl.R.bind_ok, Pl.R.o_ok, Pl.R.bind_exc, Pl.R.o_exc, List.getElem?_cons_zero, List.getElem?_cons_succ, List.set_cons_zero, List.set_cons_succ, at_0, in_one])]
      simp only [ev, evs, evo, evT, evto, evF, evQ, evI, ex, wr_bind, wr_ok, wr_exc, wt_o, wt_seq, wt_turn, wt_next, wt_brk, wt_cont, wt_ret, wt_exc, Pl.R.bind_ok, Pl.R.o_ok, Pl.R.bind_exc, Pl.R.o_exc, List.getElem?_cons_zero, List.getElem?_cons_succ, List.set_cons_zero, List.set_cons_succ, Bool.false_eq_true, if_false, bools_map, all_id, truV]
      cases h1 : (uw.all fun c => decide (c ∈ vw)) with
      | false =>
        simp only [ev, evs, evo, evT, evto, evF, evQ, evI, ex, wr_bind, wr_ok, wr_exc, wt_o, wt_seq, wt_turn, wt_next, wt_brk, wt_cont, wt_ret, wt_exc, Pl.R.bind_ok, Pl.R.o_ok, Pl.R.bind_exc, Pl.R.o_exc, List.getElem?_cons_zero, List.getElem?_cons_succ, List.set_cons_zero, List.set_cons_succ]
        rw [wt_nil]
        try dsimp only
        exact go (by rw [he, h1]; rfl) _ rfl rfl
      | true =>
        simp only [ev, evs, evo, evT, evto, evF, evQ, evI, ex, wr_bind, wr_ok, wr_exc, wt_o, wt_seq, wt_turn, wt_next, wt_brk, wt_cont, wt_ret, wt_exc, Pl.R.bind_ok, Pl.R.o_ok, Pl.R.bind_exc, Pl.R.o_exc, List.getElem?_cons_zero, List.getElem?_cons_succ, List.set_cons_zero, List.set_cons_succ]
        rw [wt_cons]
        simp only [ev, evs, evo, evT, evto, evF, evQ, evI, ex, wr_bind, wr_ok, wr_exc, wt_o, wt_seq, wt_turn, wt_next, wt_brk, wt_cont, wt_ret, wt_exc, Pl.R.bind_ok, Pl.R.o_ok, Pl.R.bind_exc, Pl.R.o_exc, List.getElem?_cons_zero, List.getElem?_cons_succ, List.set_cons_zero, List.set_cons_succ]
        rw [he, h1]
        exact frz_cl rfl
  · obtain ⟨x, y, z, rfl, rfl, he⟩ := hI
    try dsimp only
    rw [wt_cons]
    simp only [ev, evs, evo, evT, evto, evF, evQ, evI, ex, wr_bind, wr_ok, wr_exc, wt_o, wt_seq, wt_turn, wt_next, wt_brk, wt_cont, wt_ret, wt_exc, Pl.R.bind_ok, Pl.R.o_ok, Pl.R.bind_exc, Pl.R.o_exc, List.getElem?_cons_zero, List.getElem?_cons_succ, List.set_cons_zero, List.set_cons_succ]
    rw [he]
    have : plB (p.drop (p.zip (p.drop 1)).length) = true := by
      rw [List.length_zip, List.length_drop]
      cases p with
      | nil => rfl
      | cons a p =>
        have h2 : ((a :: p).drop (min (a :: p).length ((a :: p).length - 1))).length = 1 := by rw [List.length_drop, List.length_cons]; omega
        obtain ⟨b, hb⟩ := List.length_eq_one_iff.mp h2
        rw [hb]
        rfl
    rw [this]
    exact frz_cl rfl
end
end Pl

set_option maxHeartbeats 4000000
/-! Products blown. -/
namespace Pl
open PySem L2
section
variable {T : Tab} {G : Nat → Option D} {C : Nat → List D → Sto → R D}
theorem mul_tup1 {x : List D} {S : Sto} : binV .mul (.tup x) (.int 1) S = .ok (.tup x) S := rfl
theorem mul_tup0 {x : List D} {S : Sto} : binV .mul (.tup x) (.int 0) S = .ok (.tup []) S := rfl
def SpBlown (C : Nat → List D → Sto → R D) : Prop := ∀ (B : Bg) (p : List At) (S : Sto) (P : D → Sto → Prop) (X : Xc → Sto → Prop), PrOk p → p.length ≤ 20 → (∀ (q : List At) (B' : Bg), PrOk q → mp q = mp p → P (dP q) (B'.on S)) → Wr (scp 2 false (C 146) [.ref 1, dP p] (B.on S)) P X
theorem blown_ok (hT : T 146 = some f__law_blown) {k : Nat} (hp : SpPull (run T G k)) : SpBlown (run T G (k + 1)) := fun B p S P X hpo hpl h => by
  refine bag hT rfl (by show (closedD 2 (dP p) && true) = true; rw [closed_mono (Nat.zero_le 2) (cl_P p)]; rfl) ?_
  show Wt (exs _ _ f__law_blown.body [some (.ref 1), some (.tup (p.map dAt)), none, none, none, none, none, none] (B.on [])) _
  unfold f__law_blown
  rw [wt_cons]
  simp only [ev, evs, evo, evT, evto, evF, evQ, evI, ex, wr_bind, wr_ok, wr_exc, wt_o, wt_seq, wt_turn, wt_next, wt_brk, wt_cont, wt_ret, wt_exc, Pl.R.bind_ok, Pl.R.o_ok, Pl.R.bind_exc, Pl.R.o_exc, List.getElem?_cons_zero, List.getElem?_cons_succ, List.set_cons_zero, List.set_cons_succ, List.length_nil, Nat.zero_le, if_true]
  rw [wt_cons]
  simp only [ev, evs, evo, evT, evto, evF, evQ, evI, ex, wr_bind, wr_ok, wr_exc, wt_o, wt_seq, wt_turn, wt_next, wt_brk, wt_cont, wt_ret, wt_exc, Pl.R.bind_ok, Pl.R.o_ok, Pl.R.bind_exc, Pl.R.o_exc, List.getElem?_cons_zero, List.getElem?_cons_succ, List.set_cons_zero, List.set_cons_succ, seqV]
  refine for_map (e := dAt) (fun i ρ S' => ∃ (B : Bg) (q : List At) (x y z u v : Option D), ρ = [some (.ref 1), some (.tup (p.map dAt)), some (dP q), x, y, z, u, v] ∧ S' = B.on [] ∧ q.length ≤ 5 * i ∧ (∀ a ∈ q, AtOk a) ∧ q.foldl psh [] = (p.take i).foldl psh []) ⟨B, [], none, none, none, none, none, rfl, rfl, Nat.zero_le _, (fun _ h => nomatch h), rfl⟩ (fun i a ρ S' hd hI => ?_) (fun ρ S' hI => ?_)
  · obtain ⟨B, q, x, y, z, u, v, rfl, rfl, hql, hqo, hq⟩ := hI
    have ha := hpo.ok a (List.mem_of_getElem? hd)
    have hi := (List.getElem?_eq_some_iff.mp hd).1
    have et : p.take (i + 1) = p.take i ++ [a] := by rw [List.take_add_one, hd]; rfl
    obtain ⟨w, m⟩ := a
    have hwl : w.length ≤ 100 := ha.len
    have hwn : w ≠ [] := ha.ne
    have hw1 : (w.take 1).length = 1 := by
      cases w with
      | nil => exact absurd rfl hwn
      | cons c r => rfl
    have hsOk : AtOk (w.take 1, false) := ⟨fun e => by rw [show w.take 1 = [] from e] at hw1; simp at hw1, ha.up.sublist (List.take_sublist _ _), fun c hc => ha.lt c (List.mem_of_mem_take hc), fun _ => hw1, by show (w.take 1).length ≤ 100; omega⟩
    have hsSub : sub (w.take 1, false) (w, m) = true := sub_iff.mpr fun c hc => List.mem_of_mem_take hc
    refine ⟨[some (.ref 1), some (.tup (p.map dAt)), some (dP q), some (.str w), some (.bl m), z, u, v], rfl, ?_⟩
    have hwlim : w.length ≤ lim := by show w.length ≤ 100000; omega
    -- what is put in
    have rest : ∀ (ms : List At) (kd : D) (sp : D) (B : Bg), ms.length ≤ 2 → (∀ x ∈ ms, AtOk x ∧ sub x (w, m) = true ∧ (x.2 = false ∨ x = (w, m))) → (m = false → ms = []) → ∀ E : Ed,
        E.nx = (fun ρ S' => ∃ (B : Bg) (q : List At) (x y z u v : Option D), ρ = [some (.ref 1), some (.tup (p.map dAt)), some (dP q), x, y, z, u, v] ∧ S' = B.on [] ∧ q.length ≤ 5 * (i + 1) ∧ (∀ a ∈ q, AtOk a) ∧ q.foldl psh [] = (p.take (i + 1)).foldl psh []) →
        Wt (exs (run T G k) G [.asg 2 (.bin .add (.bin .add (.bin .add (.var 2) (.var 7)) (.tup [(.tup [(.var 3), (.var 4)])])) (.sli (.var 7) none (some (.calls 2 false 2 [(.var 0), (.cst (.int 2))]))))] [some (.ref 1), some (.tup (p.map dAt)), some (dP q), some (.str w), some (.bl m), some sp, some kd, some (dP ms)] (B.on [])) E := fun ms kd sp B hms hmo hm0 E he => by
      rw [wt_cons]
      simp only [ev, evs, evo, evT, evto, evF, evQ, evI, ex, wr_bind, wr_ok, wr_exc, wt_o, wt_seq, wt_turn, wt_next, wt_brk, wt_cont, wt_ret, wt_exc, Pl.R.bind_ok, Pl.R.o_ok, Pl.R.bind_exc, Pl.R.o_exc, List.getElem?_cons_zero, List.getElem?_cons_succ, List.set_cons_zero, List.set_cons_succ, dP]
      rw [add_tup (by simp; omega)]
      simp only [ev, evs, evo, evT, evto, evF, evQ, evI, ex, wr_bind, wr_ok, wr_exc, wt_o, wt_seq, wt_turn, wt_next, wt_brk, wt_cont, wt_ret, wt_exc, Pl.R.bind_ok, Pl.R.o_ok, Pl.R.bind_exc, Pl.R.o_exc, List.getElem?_cons_zero, List.getElem?_cons_succ, List.set_cons_zero, List.set_cons_succ]
      rw [if_pos (by show 2 ≤ 100000; omega)]
      simp only [ev, evs, evo, evT, evto, evF, evQ, evI, ex, wr_bind, wr_ok, wr_exc, wt_o, wt_seq, wt_turn, wt_next, wt_brk, wt_cont, wt_ret, wt_exc, Pl.R.bind_ok, Pl.R.o_ok, Pl.R.bind_exc, Pl.R.o_exc, List.getElem?_cons_zero, List.getElem?_cons_succ, List.set_cons_zero, List.set_cons_succ]
      rw [if_pos (by show 1 ≤ 100000; omega)]
      simp only [ev, evs, evo, evT, evto, evF, evQ, evI, ex, wr_bind, wr_ok, wr_exc, wt_o, wt_seq, wt_turn, wt_next, wt_brk, wt_cont, wt_ret, wt_exc, Pl.R.bind_ok, Pl.R.o_ok, Pl.R.bind_exc, Pl.R.o_exc, List.getElem?_cons_zero, List.getElem?_cons_succ, List.set_cons_zero, List.set_cons_succ]
      rw [add_tup (by simp; omega)]
      simp only [ev, evs, evo, evT, evto, evF, evQ, evI, ex, wr_bind, wr_ok, wr_exc, wt_o, wt_seq, wt_turn, wt_next, wt_brk, wt_cont, wt_ret, wt_exc, Pl.R.bind_ok, Pl.R.o_ok, Pl.R.bind_exc, Pl.R.o_exc, List.getElem?_cons_zero, List.getElem?_cons_succ, List.set_cons_zero, List.set_cons_succ]
      refine hp B _ _ _ _ (by decide) (by decide) fun r B1 r0 r1 => ?_
      obtain ⟨n, rfl⟩ : ∃ n : Nat, r = (n : Int) := ⟨r.toNat, by omega⟩
      simp only [ev, evs, evo, evT, evto, evF, evQ, evI, ex, wr_bind, wr_ok, wr_exc, wt_o, wt_seq, wt_turn, wt_next, wt_brk, wt_cont, wt_ret, wt_exc, Pl.R.bind_ok, Pl.R.o_ok, Pl.R.bind_exc, Pl.R.o_exc, List.getElem?_cons_zero, List.getElem?_cons_succ, List.set_cons_zero, List.set_cons_succ, sli_tup, cut_to]
      rw [add_tup (by simp; omega)]
      simp only [ev, evs, evo, evT, evto, evF, evQ, evI, ex, wr_bind, wr_ok, wr_exc, wt_o, wt_seq, wt_turn, wt_next, wt_brk, wt_cont, wt_ret, wt_exc, Pl.R.bind_ok, Pl.R.o_ok, Pl.R.bind_exc, Pl.R.o_exc, List.getElem?_cons_zero, List.getElem?_cons_succ, List.set_cons_zero, List.set_cons_succ]
      rw [wt_nil, he]
      have e : q.map dAt ++ ms.map dAt ++ [D.tup [.str w, .bl m]] ++ (ms.map dAt).take n = (q ++ (ms ++ [(w, m)] ++ ms.take n)).map dAt := by simp [dAt]
      refine ⟨B1, q ++ (ms ++ [(w, m)] ++ ms.take n), _, _, _, _, _, by rw [e]; rfl, rfl, by simp; omega, fun a hx => ?_, ?_⟩
      · rcases List.mem_append.mp hx with hx | hx
        · exact hqo a hx
        · rcases List.mem_append.mp hx with hx | hx
          · rcases List.mem_append.mp hx with hx | hx
            · exact (hmo a hx).1
            · rw [List.mem_singleton.mp hx]; exact ha
          · exact (hmo a (List.mem_of_mem_take hx)).1
      · have e2 : (p.take i ++ [(w, m)]).foldl psh [] = psh ((p.take i).foldl psh []) (w, m) := by rw [List.foldl_append]; rfl
        rw [et, e2, List.foldl_append, hq]
        cases m with
        | true => exact fold_blow rfl ms (ms.take n) _ (fun x hx => (hmo x hx).2) fun x hx => (hmo x (List.mem_of_mem_take hx)).2.1
        | false =>
          rw [hm0 rfl]
          simp
    rw [wt_cons]
    simp only [ev, evs, evo, evT, evto, evF, evQ, evI, ex, wr_bind, wr_ok, wr_exc, wt_o, wt_seq, wt_turn, wt_next, wt_brk, wt_cont, wt_ret, wt_exc, Pl.R.bind_ok, Pl.R.o_ok, Pl.R.bind_exc, Pl.R.o_exc, List.getElem?_cons_zero, List.getElem?_cons_succ, List.set_cons_zero, List.set_cons_succ, sli_str hwlim, show cutL w none (some 1) = w.take 1 from cut_to w 1]
    rw [if_pos (by show 2 ≤ 100000; omega)]
    simp only [ev, evs, evo, evT, evto, evF, evQ, evI, ex, wr_bind, wr_ok, wr_exc, wt_o, wt_seq, wt_turn, wt_next, wt_brk, wt_cont, wt_ret, wt_exc, Pl.R.bind_ok, Pl.R.o_ok, Pl.R.bind_exc, Pl.R.o_exc, List.getElem?_cons_zero, List.getElem?_cons_succ, List.set_cons_zero, List.set_cons_succ]
    rw [if_pos (by show 1 ≤ 100000; omega)]
    cases m with
    | false =>
      simp only [ev, evs, evo, evT, evto, evF, evQ, evI, ex, wr_bind, wr_ok, wr_exc, wt_o, wt_seq, wt_turn, wt_next, wt_brk, wt_cont, wt_ret, wt_exc, Pl.R.bind_ok, Pl.R.o_ok, Pl.R.bind_exc, Pl.R.o_exc, List.getElem?_cons_zero, List.getElem?_cons_succ, List.set_cons_zero, List.set_cons_succ, Bool.false_eq_true, if_false, mul_tup0]
      rw [wt_cons]
      simp only [ev, evs, evo, evT, evto, evF, evQ, evI, ex, wr_bind, wr_ok, wr_exc, wt_o, wt_seq, wt_turn, wt_next, wt_brk, wt_cont, wt_ret, wt_exc, Pl.R.bind_ok, Pl.R.o_ok, Pl.R.bind_exc, Pl.R.o_exc, List.getElem?_cons_zero, List.getElem?_cons_succ, List.set_cons_zero, List.set_cons_succ]
      refine hp B _ _ _ _ (by decide) (by decide) fun r B1 r0 r1 => ?_
      rw [wt_cons]
      simp only [ev, evs, evo, evT, evto, evF, evQ, evI, ex, wr_bind, wr_ok, wr_exc, wt_o, wt_seq, wt_turn, wt_next, wt_brk, wt_cont, wt_ret, wt_exc, Pl.R.bind_ok, Pl.R.o_ok, Pl.R.bind_exc, Pl.R.o_exc, List.getElem?_cons_zero, List.getElem?_cons_succ, List.set_cons_zero, List.set_cons_succ, List.length_nil, Nat.zero_le, if_true]
      rw [if_pos (by show 2 ≤ 100000; omega)]
      simp only [ev, evs, evo, evT, evto, evF, evQ, evI, ex, wr_bind, wr_ok, wr_exc, wt_o, wt_seq, wt_turn, wt_next, wt_brk, wt_cont, wt_ret, wt_exc, Pl.R.bind_ok, Pl.R.o_ok, Pl.R.bind_exc, Pl.R.o_exc, List.getElem?_cons_zero, List.getElem?_cons_succ, List.set_cons_zero, List.set_cons_succ]
      rw [if_pos (by show 1 ≤ 100000; omega)]
      simp only [ev, evs, evo, evT, evto, evF, evQ, evI, ex, wr_bind, wr_ok, wr_exc, wt_o, wt_seq, wt_turn, wt_next, wt_brk, wt_cont, wt_ret, wt_exc, Pl.R.bind_ok, Pl.R.o_ok, Pl.R.bind_exc, Pl.R.o_exc, List.getElem?_cons_zero, List.getElem?_cons_succ, List.set_cons_zero, List.set_cons_succ, Bool.false_eq_true, if_false, mul_tup0]
      rw [add_tup (by simp)]
      simp only [ev, evs, evo, evT, evto, evF, evQ, evI, ex, wr_bind, wr_ok, wr_exc, wt_o, wt_seq, wt_turn, wt_next, wt_brk, wt_cont, wt_ret, wt_exc, Pl.R.bind_ok, Pl.R.o_ok, Pl.R.bind_exc, Pl.R.o_exc, List.getElem?_cons_zero, List.getElem?_cons_succ, List.set_cons_zero, List.set_cons_succ, List.append_nil]
      rw [if_pos (by show 4 ≤ 100000; omega)]
      obtain ⟨d, q1, q2⟩ := atI_in (xs := [D.tup [], .tup [], .tup [], .tup []]) r0 (by simpa using r1)
      have hdd : d = dP [] := by
        have := List.mem_of_getElem? q2
        simp only [List.mem_cons, List.not_mem_nil, or_false, or_self] at this
        exact this
      subst hdd
      simp only [ev, evs, evo, evT, evto, evF, evQ, evI, ex, wr_bind, wr_ok, wr_exc, wt_o, wt_seq, wt_turn, wt_next, wt_brk, wt_cont, wt_ret, wt_exc, Pl.R.bind_ok, Pl.R.o_ok, Pl.R.bind_exc, Pl.R.o_exc, List.getElem?_cons_zero, List.getElem?_cons_succ, List.set_cons_zero, List.set_cons_succ]
      rw [idxV_fro q1]
      simp only [ev, evs, evo, evT, evto, evF, evQ, evI, ex, wr_bind, wr_ok, wr_exc, wt_o, wt_seq, wt_turn, wt_next, wt_brk, wt_cont, wt_ret, wt_exc, Pl.R.bind_ok, Pl.R.o_ok, Pl.R.bind_exc, Pl.R.o_exc, List.getElem?_cons_zero, List.getElem?_cons_succ, List.set_cons_zero, List.set_cons_succ]
      exact rest [] _ _ B1 (by simp) (fun _ h => nomatch h) (fun _ => rfl) _ rfl
    | true =>
      simp only [ev, evs, evo, evT, evto, evF, evQ, evI, ex, wr_bind, wr_ok, wr_exc, wt_o, wt_seq, wt_turn, wt_next, wt_brk, wt_cont, wt_ret, wt_exc, Pl.R.bind_ok, Pl.R.o_ok, Pl.R.bind_exc, Pl.R.o_exc, List.getElem?_cons_zero, List.getElem?_cons_succ, List.set_cons_zero, List.set_cons_succ, if_true, mul_tup1]
      rw [wt_cons]
      simp only [ev, evs, evo, evT, evto, evF, evQ, evI, ex, wr_bind, wr_ok, wr_exc, wt_o, wt_seq, wt_turn, wt_next, wt_brk, wt_cont, wt_ret, wt_exc, Pl.R.bind_ok, Pl.R.o_ok, Pl.R.bind_exc, Pl.R.o_exc, List.getElem?_cons_zero, List.getElem?_cons_succ, List.set_cons_zero, List.set_cons_succ]
      refine hp B _ _ _ _ (by decide) (by decide) fun r B1 r0 r1 => ?_
      rw [wt_cons]
      simp only [ev, evs, evo, evT, evto, evF, evQ, evI, ex, wr_bind, wr_ok, wr_exc, wt_o, wt_seq, wt_turn, wt_next, wt_brk, wt_cont, wt_ret, wt_exc, Pl.R.bind_ok, Pl.R.o_ok, Pl.R.bind_exc, Pl.R.o_exc, List.getElem?_cons_zero, List.getElem?_cons_succ, List.set_cons_zero, List.set_cons_succ, List.length_nil, Nat.zero_le, if_true]
      rw [if_pos (by show 2 ≤ 100000; omega)]
      simp only [ev, evs, evo, evT, evto, evF, evQ, evI, ex, wr_bind, wr_ok, wr_exc, wt_o, wt_seq, wt_turn, wt_next, wt_brk, wt_cont, wt_ret, wt_exc, Pl.R.bind_ok, Pl.R.o_ok, Pl.R.bind_exc, Pl.R.o_exc, List.getElem?_cons_zero, List.getElem?_cons_succ, List.set_cons_zero, List.set_cons_succ]
      rw [if_pos (by show 1 ≤ 100000; omega)]
      simp only [ev, evs, evo, evT, evto, evF, evQ, evI, ex, wr_bind, wr_ok, wr_exc, wt_o, wt_seq, wt_turn, wt_next, wt_brk, wt_cont, wt_ret, wt_exc, Pl.R.bind_ok, Pl.R.o_ok, Pl.R.bind_exc, Pl.R.o_exc, List.getElem?_cons_zero, List.getElem?_cons_succ, List.set_cons_zero, List.set_cons_succ, if_true, mul_tup1]
      rw [add_tup (by show 2 ≤ 100000; omega)]
      simp only [ev, evs, evo, evT, evto, evF, evQ, evI, ex, wr_bind, wr_ok, wr_exc, wt_o, wt_seq, wt_turn, wt_next, wt_brk, wt_cont, wt_ret, wt_exc, Pl.R.bind_ok, Pl.R.o_ok, Pl.R.bind_exc, Pl.R.o_exc, List.getElem?_cons_zero, List.getElem?_cons_succ, List.set_cons_zero, List.set_cons_succ]
      rw [if_pos (by show 4 ≤ 100000; omega)]
      obtain ⟨d, q1, q2⟩ := atI_in (xs := [D.tup [], .tup [.tup [.str (w.take 1), .bl false]], .tup [.tup [.str w, .bl true]], .tup ([.tup [.str (w.take 1), .bl false]] ++ [.tup [.str (w.take 1), .bl false]])]) r0 (by simpa using r1)
      have hdd : ∃ ms : List At, d = dP ms ∧ ms.length ≤ 2 ∧ ∀ x ∈ ms, AtOk x ∧ sub x (w, true) = true ∧ (x.2 = false ∨ x = (w, true)) := by
        have := List.mem_of_getElem? q2
        simp only [List.mem_cons, List.not_mem_nil, or_false] at this
        rcases this with rfl | rfl | rfl | rfl
        · exact ⟨[], rfl, by simp, fun _ h => nomatch h⟩
        · exact ⟨[(w.take 1, false)], rfl, by simp, fun x hx => by rw [List.mem_singleton.mp hx]; exact ⟨hsOk, hsSub, .inl rfl⟩⟩
        · exact ⟨[(w, true)], rfl, by simp, fun x hx => by rw [List.mem_singleton.mp hx]; exact ⟨ha, sub_refl _, .inr rfl⟩⟩
        · exact ⟨[(w.take 1, false), (w.take 1, false)], rfl, by simp, fun x hx => by
            simp only [List.mem_cons, List.not_mem_nil, or_false, or_self] at hx
            rw [hx]; exact ⟨hsOk, hsSub, .inl rfl⟩⟩
      obtain ⟨ms, rfl, h1, h2⟩ := hdd
      simp only [ev, evs, evo, evT, evto, evF, evQ, evI, ex, wr_bind, wr_ok, wr_exc, wt_o, wt_seq, wt_turn, wt_next, wt_brk, wt_cont, wt_ret, wt_exc, Pl.R.bind_ok, Pl.R.o_ok, Pl.R.bind_exc, Pl.R.o_exc, List.getElem?_cons_zero, List.getElem?_cons_succ, List.set_cons_zero, List.set_cons_succ]
      rw [idxV_fro q1]
      simp only [ev, evs, evo, evT, evto, evF, evQ, evI, ex, wr_bind, wr_ok, wr_exc, wt_o, wt_seq, wt_turn, wt_next, wt_brk, wt_cont, wt_ret, wt_exc, Pl.R.bind_ok, Pl.R.o_ok, Pl.R.bind_exc, Pl.R.o_exc, List.getElem?_cons_zero, List.getElem?_cons_succ, List.set_cons_zero, List.set_cons_succ]
      exact rest ms _ _ B1 h1 h2 (fun z => nomatch z) _ rfl
  · obtain ⟨B, q, x, y, z, u, v, rfl, rfl, hql, hqo, hq⟩ := hI
    try dsimp only
    rw [wt_cons]
    simp only [ev, evs, evo, evT, evto, evF, evQ, evI, ex, wr_bind, wr_ok, wr_exc, wt_o, wt_seq, wt_turn, wt_next, wt_brk, wt_cont, wt_ret, wt_exc, Pl.R.bind_ok, Pl.R.o_ok, Pl.R.bind_exc, Pl.R.o_exc, List.getElem?_cons_zero, List.getElem?_cons_succ, List.set_cons_zero, List.set_cons_succ]
    rw [List.take_length] at hq
    exact ⟨B, [], dP q, rfl, frz_cl (closed_mono (Nat.zero_le 2) (cl_P q)), h q B ⟨by omega, hqo⟩ (by unfold mp; rw [hq])⟩
end
end Pl

set_option maxRecDepth 100000
set_option maxHeartbeats 4000000
/-! Products sent, taken, swollen. -/
namespace Pl
open PySem L2
/-- need_letter: letter -/
def f_need_letter : Fn := ⟨1, 1, [
  .if_ (.not_ (.ex (.calls 0 false 24 [(.var 0)]))) [.no] []]⟩
/-- with_letter: product letter -/
def f_with_letter : Fn := ⟨2, 2, [
  .ret (.calls 0 false 129 [(.bin .add (.var 0) (.tup [(.tup [(.var 1), (.cst (.bl false))])]))])]⟩
/-- without_letter: product letter spot -/
def f_without_letter : Fn := ⟨2, 3, [
  .asg 2 (.calls 0 false 107 [(.var 0), (.cst (.int 0)), (.var 1), (.cst (.bl false))]),
  .if_ (.cmp .isN (.var 2) (.cst .non)) [.ret (.cst .non)] [],
  .ret (.calls 0 false 129 [(.sli (.var 0) (some (.ifx (.ex (.idx (.idx (.var 0) (.var 2)) (.cst (.int 1)))) (.var 2) (.bin .add (.var 2) (.cst (.int 1))))) none)])]⟩
/-- with_letters: product letters -/
def f_with_letters : Fn := ⟨2, 2, [
  .ret (.ifx (.ex (.var 1)) (.calls 0 false 129 [(.bin .add (.var 0) (.tup [(.tup [(.var 1), (.cst (.bl true))])]))]) (.calls 0 false 129 [(.var 0)]))]⟩
/-- sent: product letter -/
def f_sent : Fn := ⟨2, 2, [
  .expr (.calls 0 false 128 [(.var 0)]),
  .expr (.calls 0 false 130 [(.var 1)]),
  .ret (.calls 0 false 131 [(.var 0), (.var 1)])]⟩
/-- taken: product letter -/
def f_taken : Fn := ⟨2, 2, [
  .expr (.calls 0 false 128 [(.var 0)]),
  .expr (.calls 0 false 130 [(.var 1)]),
  .ret (.calls 0 false 132 [(.var 0), (.var 1)])]⟩
/-- swollen: product letters -/
def f_swollen : Fn := ⟨2, 2, [
  .expr (.calls 0 false 128 [(.var 0)]),
  .if_ (.not_ (.ex (.calls 0 false 126 [(.var 1)]))) [.no] [],
  .ret (.calls 0 false 133 [(.var 0), (.var 1)])]⟩
/-- _law_plain_look: _law_product_here _law_one _law_other _law_letter -/
def f__law_plain_look : Fn := ⟨1, 4, [
  .for_ [1, 2] true (.zip (.ex (.var 0)) (.ex (.sli (.var 0) (some (.cst (.int 1))) none))) [.if_ (.and_ (.ex (.idx (.var 2) (.cst (.int 1)))) (.ex (.all_ (.fr (.lc [("_law_letter", 3)] [3] false (.str (.idx (.var 1) (.cst (.int 0)))) none (.cmp .isin (.var 3) (.idx (.var 2) (.cst (.int 0))))))))) [.ret (.cst (.bl false))] [], .if_ (.and_ (.ex (.idx (.var 1) (.cst (.int 1)))) (.ex (.all_ (.fr (.lc [("_law_letter", 3)] [3] false (.str (.idx (.var 2) (.cst (.int 0)))) none (.cmp .isin (.var 3) (.idx (.var 1) (.cst (.int 0))))))))) [.ret (.cst (.bl false))] []],
  .ret (.cst (.bl true))]⟩
/-- _law_words_to: _law_letters_here _law_top _law_found _law_edge _law_k _law_longer _law_word_here _law_letter -/
def f__law_words_to : Fn := ⟨2, 8, [
  .asg 2 (.frn (.lst [(.cst (.str []))])),
  .asg 3 (.frn (.lst [(.cst (.str []))])),
  .for_ [4] false (.rng (.var 1)) [.asg 5 (.frn (.lst [])), .for_ [6] false (.sq (.ex (.var 3))) [.asg 5 (.bin .add (.var 5) (.frn (.lc [("_law_letter", 7)] [7] false (.sq (.ex (.var 0))) none (.bin .add (.var 6) (.var 7)))))], .asg 3 (.var 5), .asg 2 (.bin .add (.var 2) (.var 3))],
  .ret (.var 2)]⟩
/-- _law_tail_in: _law_product_here _law_word_here _law_tail _law_at _law_letter -/
def f__law_tail_in : Fn := ⟨3, 5, [
  .for_ [3] false (.rng (.bin .add (.len (.var 1)) (.cst (.int 1)))) [.if_ (.and_ (.ex (.calls 0 false 139 [(.var 0), (.sli (.var 1) none (some (.var 3)))])) (.ex (.all_ (.fr (.lc [("_law_letter", 4)] [4] false (.str (.sli (.var 1) (some (.var 3)) none)) none (.cmp .isin (.var 4) (.var 2))))))) [.ret (.cst (.bl true))] []],
  .ret (.cst (.bl false))]⟩

theorem lies_mp (a p : List At) : lies a (mp p) = lies a p := by
  rw [Bool.eq_iff_iff]
  exact ⟨fun h => lies_tr a _ _ h (lies_of_sub (mp_sub p)), fun h => lies_tr a _ _ h (mp_lies p)⟩
theorem con_more {c : Nat} {w : List Nat} {p t r : List At} {b : At} (h : seek [c] false p = b :: r) : con (c :: w) (p ++ t) = con w (nxt b r ++ t) := by
  rw [con_some (seek_app h), nxt_app]
theorem con_past {c : Nat} {w : List Nat} {p t : List At} (h : seek [c] false p = []) : con (c :: w) (p ++ t) = con (c :: w) t := by
  have h2 : ∀ a ∈ p, fits [c] false a = false := by
    rcases seek_split [c] false p with ⟨_, q2⟩ | ⟨t, b, r, q1, _⟩
    · exact q2
    · rw [h] at q1; cases q1
  have e := seek_skip (q := t) h2
  simp only [con, e]
/-- a word of the product with a letter behind -/
theorem con_sent {d : Nat} : ∀ (u : List Nat) (p : List At), (con u (p ++ [([d], false)])).isSome = ((con u p).isSome || (decide (u.getLast? = some d) && (con u.dropLast p).isSome))
  | [], p => rfl
  | c :: u, p => by
    cases h : seek [c] false p with
    | cons b r =>
      rw [con_more h, con_some h, con_sent u (nxt b r)]
      cases u with
      | nil => rfl
      | cons c2 u =>
        rw [show (c :: c2 :: u).dropLast = c :: (c2 :: u).dropLast from rfl, con_some h, show (c :: c2 :: u).getLast? = (c2 :: u).getLast? from by simp [List.getLast?_cons]]
    | nil =>
      rw [con_past h, con_none h]
      have hs : seek [c] false [([d], false)] = if c = d then [([d], false)] else [] := by
        rw [seek_cons, fits_one]
        by_cases e : c = d <;> simp [e, seek]
      cases u with
      | nil =>
        by_cases e : c = d
        · rw [if_pos e] at hs
          rw [con_some hs]
          subst e
          simp [con]
        · rw [if_neg e] at hs
          rw [con_none hs]
          simp [e]
      | cons c2 u =>
        rw [show (c :: c2 :: u).dropLast = c :: (c2 :: u).dropLast from rfl, con_none h]
        by_cases e : c = d
        · rw [if_pos e] at hs
          rw [con_some hs]
          have : con (c2 :: u) (nxt ([d], false) []) = none := con_none rfl
          rw [this]
          simp
        · rw [if_neg e] at hs
          rw [con_none hs]
          simp
theorem con_many {w : List Nat} : ∀ u : List Nat, (con u [(w, true)]).isSome = u.all fun c => decide (c ∈ w)
  | [] => rfl
  | c :: u => by
    have hs : seek [c] false [(w, true)] = if c ∈ w then [(w, true)] else [] := by
      rw [seek_cons, fits_one]
      by_cases e : c ∈ w <;> simp [e, seek]
    by_cases e : c ∈ w
    · rw [if_pos e] at hs
      rw [con_some hs, show nxt (w, true) [] = [(w, true)] from rfl, con_many u]
      simp [e]
    · rw [if_neg e] at hs
      rw [con_none hs]
      simp [e]
def tailB (u : List Nat) (p : List At) (w : List Nat) : Bool := (List.range (u.length + 1)).any fun n => lies (wP (u.take n)) p && (u.drop n).all fun c => decide (c ∈ w)
theorem tailB_iff {u : List Nat} {p : List At} {w : List Nat} : tailB u p w = true ↔ ∃ n, n ≤ u.length ∧ lies (wP (u.take n)) p = true ∧ ∀ c ∈ u.drop n, c ∈ w := by
  unfold tailB
  rw [List.any_eq_true]
  constructor
  · rintro ⟨n, h1, h2⟩
    rw [Bool.and_eq_true, List.all_eq_true] at h2
    exact ⟨n, by have := List.mem_range.mp h1; omega, h2.1, fun c hc => of_decide_eq_true (h2.2 c hc)⟩
  · rintro ⟨n, h1, h2, h3⟩
    exact ⟨n, List.mem_range.mpr (by omega), by rw [h2, Bool.true_and, List.all_eq_true]; exact fun c hc => decide_eq_true (h3 c hc)⟩
theorem con_swell {w : List Nat} : ∀ (u : List Nat) (p : List At), (con u (p ++ [(w, true)])).isSome = true ↔ ∃ n, n ≤ u.length ∧ (con (u.take n) p).isSome = true ∧ ∀ c ∈ u.drop n, c ∈ w
  | [], p => ⟨fun _ => ⟨0, Nat.le_refl _, rfl, fun _ h => nomatch h⟩, fun _ => rfl⟩
  | c :: u, p => by
    cases h : seek [c] false p with
    | cons b r =>
      rw [con_more h, con_swell u (nxt b r)]
      constructor
      · rintro ⟨n, h1, h2, h3⟩
        exact ⟨n + 1, by simpa using h1, by rw [List.take_succ_cons, con_some h]; exact h2, by simpa using h3⟩
      · rintro ⟨n, h1, h2, h3⟩
        cases n with
        | zero => exact ⟨0, Nat.zero_le _, rfl, fun x hx => h3 x (List.mem_cons_of_mem _ hx)⟩
        | succ n => exact ⟨n, by simpa using h1, by rw [List.take_succ_cons, con_some h] at h2; exact h2, by simpa using h3⟩
    | nil =>
      rw [con_past h, con_many, List.all_eq_true]
      constructor
      · exact fun h2 => ⟨0, Nat.zero_le _, rfl, fun x hx => of_decide_eq_true (h2 x hx)⟩
      · rintro ⟨n, h1, h2, h3⟩
        cases n with
        | zero => exact fun x hx => decide_eq_true (h3 x hx)
        | succ n => rw [List.take_succ_cons, con_none h] at h2; cases h2
theorem lies_swell {u : List Nat} {p : List At} {w : List Nat} : lies (wP u) (p ++ [(w, true)]) = tailB u p w := by
  rw [Bool.eq_iff_iff, tailB_iff, con_lies, con_swell]
  constructor
  · rintro ⟨n, h1, h2, h3⟩
    exact ⟨n, h1, by rw [con_lies]; exact h2, h3⟩
  · rintro ⟨n, h1, h2, h3⟩
    exact ⟨n, h1, by rw [con_lies] at h2; exact h2, h3⟩
theorem tailB_nil {u : List Nat} {p : List At} : tailB u p [] = lies (wP u) p := by
  rw [Bool.eq_iff_iff, tailB_iff]
  constructor
  · rintro ⟨n, h1, h2, h3⟩
    have : u.drop n = [] := List.eq_nil_iff_forall_not_mem.mpr fun c hc => nomatch h3 c hc
    have hn : u.take n = u := by
      have := List.take_append_drop n u
      rw [‹u.drop n = []›, List.append_nil] at this
      exact this
    rw [hn] at h2
    exact h2
  · exact fun h => ⟨u.length, Nat.le_refl _, by rw [List.take_length]; exact h, fun c hc => by rw [List.drop_length] at hc; exact nomatch hc⟩
theorem lies_sent {u : List Nat} {p : List At} {d : Nat} : lies (wP u) (p ++ [([d], false)]) = (lies (wP u) p || (decide (u.getLast? = some d) && lies (wP u.dropLast) p)) := by
  rw [con_lies, con_sent, con_lies, con_lies]
section
variable {T : Tab} {G : Nat → Option D} {C : Nat → List D → Sto → R D}
def SpIsLetter1 (C : Nat → List D → Sto → R D) : Prop := ∀ (c : Nat) (S : Sto), c ∈ alph → scp 0 false (C 24) [.str [c]] S = .ok (.bl true) S
theorem isletter_ok (hT : T 24 = some f_is_letter) (hG : G 19 = some (.str alph)) (k : Nat) : SpIsLetter1 (run T G (k + 1)) := fun c S hc => by
  refine pur hT rfl rfl ?_ S
  show Wt (exs _ _ f_is_letter.body [some (.str [c])] []) _
  unfold f_is_letter
  rw [wt_cons]
  have hl : lenV (.str [c]) [] = .ok (.int 1) [] := rfl
  simp only [ev, evs, evo, evT, evto, evF, evQ, evI, ex, wr_bind, wr_ok, wr_exc, wt_o, wt_seq, wt_turn, wt_next, wt_brk, wt_cont, wt_ret, wt_exc, Pl.R.bind_ok, Pl.R.o_ok, Pl.R.bind_exc, Pl.R.o_exc, List.getElem?_cons_zero, List.getElem?_cons_succ, List.set_cons_zero, List.set_cons_succ, hl, c_eqi, hG, in_alph, decide_eq_true hc, decide_true]
  exact frz_cl rfl
def SpNeedLetter (C : Nat → List D → Sto → R D) : Prop := ∀ (c : Nat) (S : Sto), c ∈ alph → scp 0 false (C 130) [.str [c]] S = .ok .non S
theorem needletter_ok (hT : T 130 = some f_need_letter) {k : Nat} (hL : SpIsLetter1 (run T G k)) : SpNeedLetter (run T G (k + 1)) := fun c S hc => by
  refine pur hT rfl rfl ?_ S
  show Wt (exs _ _ f_need_letter.body [some (.str [c])] []) _
  unfold f_need_letter
  rw [wt_cons]
  simp only [ev, evs, evo, evT, evto, evF, evQ, evI, ex, wr_bind, wr_ok, wr_exc, wt_o, wt_seq, wt_turn, wt_next, wt_brk, wt_cont, wt_ret, wt_exc, Pl.R.bind_ok, Pl.R.o_ok, Pl.R.bind_exc, Pl.R.o_exc, List.getElem?_cons_zero, List.getElem?_cons_succ, List.set_cons_zero, List.set_cons_succ, hL c [] hc, truV, Bool.not_true]
  rw [wt_nil]
  exact frz_cl rfl
theorem one_ok {c : Nat} (hc : c ∈ alph) : PrOk [([c], false)] := wP_ok (w := [c]) (fun x hx => by rw [List.mem_singleton.mp hx]; exact hc) (by show 1 ≤ 1000; omega)
theorem many_ok {w : List Nat} (h0 : w ≠ []) (h1 : Lett w) (h2 : w.Pairwise (· < ·)) (h3 : w.length ≤ 100) : PrOk [(w, true)] := ⟨by show 1 ≤ 1000; omega, fun a ha => by rw [List.mem_singleton.mp ha]; exact ⟨h0, h2, h1, (fun z => nomatch z), h3⟩⟩
def SpSent (C : Nat → List D → Sto → R D) : Prop := ∀ (p : List At) (c : Nat) (S : Sto), PrOk p → p.length ≤ 900 → c ∈ alph → scp 0 false (C 147) [dP p, .str [c]] S = .ok (dP (mp (p ++ [([c], false)]))) S
theorem sent_ok (hT : T 147 = some f_sent) (hT2 : T 131 = some f_with_letter) {k : Nat} (hN : SpNeedProd (run T G (k + 1))) (hN2 : SpNeedLetter (run T G (k + 1))) (hM : SpMade (run T G k)) : SpSent (run T G (k + 2)) := fun p c S hp hl hc => by
  have hp2 := prOk_app hp (one_ok hc) (by show p.length + 1 ≤ 1000; omega)
  have h2 : ∀ S, scp 0 false (run T G (k + 1) 131) [dP p, .str [c]] S = .ok (dP (mp (p ++ [([c], false)]))) S := fun S => by
    refine pur hT2 rfl (by show (closedD 0 (dP p) && (true && true)) = true; rw [cl_P]; rfl) ?_ S
    show Wt (exs _ _ f_with_letter.body [some (.tup (p.map dAt)), some (.str [c])] []) _
    unfold f_with_letter
    rw [wt_cons]
    simp only [ev, evs, evo, evT, evto, evF, evQ, evI, ex, wr_bind, wr_ok, wr_exc, wt_o, wt_seq, wt_turn, wt_next, wt_brk, wt_cont, wt_ret, wt_exc, Pl.R.bind_ok, Pl.R.o_ok, Pl.R.bind_exc, Pl.R.o_exc, List.getElem?_cons_zero, List.getElem?_cons_succ, List.set_cons_zero, List.set_cons_succ]
    rw [if_pos (by show 2 ≤ 100000; omega)]
    simp only [ev, evs, evo, evT, evto, evF, evQ, evI, ex, wr_bind, wr_ok, wr_exc, wt_o, wt_seq, wt_turn, wt_next, wt_brk, wt_cont, wt_ret, wt_exc, Pl.R.bind_ok, Pl.R.o_ok, Pl.R.bind_exc, Pl.R.o_exc, List.getElem?_cons_zero, List.getElem?_cons_succ, List.set_cons_zero, List.set_cons_succ]
    rw [if_pos (by show 1 ≤ 100000; omega)]
    simp only [ev, evs, evo, evT, evto, evF, evQ, evI, ex, wr_bind, wr_ok, wr_exc, wt_o, wt_seq, wt_turn, wt_next, wt_brk, wt_cont, wt_ret, wt_exc, Pl.R.bind_ok, Pl.R.o_ok, Pl.R.bind_exc, Pl.R.o_exc, List.getElem?_cons_zero, List.getElem?_cons_succ, List.set_cons_zero, List.set_cons_succ]
    rw [add_tup (by simp; omega)]
    have e : D.tup (p.map dAt ++ [D.tup [.str [c], .bl false]]) = dP (p ++ [([c], false)]) := by simp [dP, dAt]
    simp only [ev, evs, evo, evT, evto, evF, evQ, evI, ex, wr_bind, wr_ok, wr_exc, wt_o, wt_seq, wt_turn, wt_next, wt_brk, wt_cont, wt_ret, wt_exc, Pl.R.bind_ok, Pl.R.o_ok, Pl.R.bind_exc, Pl.R.o_exc, List.getElem?_cons_zero, List.getElem?_cons_succ, List.set_cons_zero, List.set_cons_succ, e, hM _ [] hp2]
    exact frz_cl (cl_P _)
  refine pur hT rfl (by show (closedD 0 (dP p) && (true && true)) = true; rw [cl_P]; rfl) ?_ S
  show Wt (exs _ _ f_sent.body [some (dP p), some (.str [c])] []) _
  unfold f_sent
  rw [wt_cons]
  simp only [ev, evs, evo, evT, evto, evF, evQ, evI, ex, wr_bind, wr_ok, wr_exc, wt_o, wt_seq, wt_turn, wt_next, wt_brk, wt_cont, wt_ret, wt_exc, Pl.R.bind_ok, Pl.R.o_ok, Pl.R.bind_exc, Pl.R.o_exc, List.getElem?_cons_zero, List.getElem?_cons_succ, List.set_cons_zero, List.set_cons_succ, hN p [] hp]
  rw [wt_cons]
  simp only [ev, evs, evo, evT, evto, evF, evQ, evI, ex, wr_bind, wr_ok, wr_exc, wt_o, wt_seq, wt_turn, wt_next, wt_brk, wt_cont, wt_ret, wt_exc, Pl.R.bind_ok, Pl.R.o_ok, Pl.R.bind_exc, Pl.R.o_exc, List.getElem?_cons_zero, List.getElem?_cons_succ, List.set_cons_zero, List.set_cons_succ, hN2 c [] hc]
  rw [wt_cons]
  simp only [ev, evs, evo, evT, evto, evF, evQ, evI, ex, wr_bind, wr_ok, wr_exc, wt_o, wt_seq, wt_turn, wt_next, wt_brk, wt_cont, wt_ret, wt_exc, Pl.R.bind_ok, Pl.R.o_ok, Pl.R.bind_exc, Pl.R.o_exc, List.getElem?_cons_zero, List.getElem?_cons_succ, List.set_cons_zero, List.set_cons_succ, h2]
  exact frz_cl (cl_P _)
def takD (p : List At) (c : Nat) : D := match seek [c] false p with
  | [] => .non
  | b :: r => dP (mp (nxt b r))
theorem takD_none {p : List At} {c : Nat} (h : seek [c] false p = []) : takD p c = .non := by unfold takD; rw [h]
theorem takD_some {p r : List At} {c : Nat} {b : At} (h : seek [c] false p = b :: r) : takD p c = dP (mp (nxt b r)) := by unfold takD; rw [h]
def SpTaken (C : Nat → List D → Sto → R D) : Prop := ∀ (p : List At) (c : Nat) (S : Sto), PrOk p → c ∈ alph → scp 0 false (C 148) [dP p, .str [c]] S = .ok (takD p c) S
theorem takD_cl {p : List At} {c : Nat} : closedD 0 (takD p c) = true := by
  unfold takD
  split
  · rfl
  · exact cl_P _
theorem taken_ok (hT : T 148 = some f_taken) (hT2 : T 132 = some f_without_letter) {k : Nat} (hN : SpNeedProd (run T G (k + 1))) (hN2 : SpNeedLetter (run T G (k + 1))) (hM : SpMade (run T G k)) (hF : SpFound (run T G k)) : SpTaken (run T G (k + 2)) := fun p c S hp hc => by
  have hpl := hp.len
  have h2 : ∀ S, scp 0 false (run T G (k + 1) 132) [dP p, .str [c]] S = .ok (takD p c) S := fun S => by
    refine pur hT2 rfl (by show (closedD 0 (dP p) && (true && true)) = true; rw [cl_P]; rfl) ?_ S
    show Wt (exs _ _ f_without_letter.body [some (.tup (p.map dAt)), some (.str [c]), none] []) _
    unfold f_without_letter
    have hF2 : ∀ S, scp 0 false (run T G k 107) [.tup (p.map dAt), .int 0, .str [c], .bl false] S = .ok (fndD p 0 [c] false) S := fun S => hF p 0 [c] false S (by omega) (Nat.zero_le _) (by show 1 ≤ 100000; omega)
    rw [wt_cons]
    simp only [ev, evs, evo, evT, evto, evF, evQ, evI, ex, wr_bind, wr_ok, wr_exc, wt_o, wt_seq, wt_turn, wt_next, wt_brk, wt_cont, wt_ret, wt_exc, Pl.R.bind_ok, Pl.R.o_ok, Pl.R.bind_exc, Pl.R.o_exc, List.getElem?_cons_zero, List.getElem?_cons_succ, List.set_cons_zero, List.set_cons_succ, hF2]
    rw [wt_cons]
    simp only [ev, evs, evo, evT, evto, evF, evQ, evI, ex, wr_bind, wr_ok, wr_exc, wt_o, wt_seq, wt_turn, wt_next, wt_brk, wt_cont, wt_ret, wt_exc, Pl.R.bind_ok, Pl.R.o_ok, Pl.R.bind_exc, Pl.R.o_exc, List.getElem?_cons_zero, List.getElem?_cons_succ, List.set_cons_zero, List.set_cons_succ, c_isN]
    rcases seek_split [c] false p with ⟨q1, q2⟩ | ⟨t, b, r, q1, q2, q3, q4⟩
    · have e1 : fndD p 0 [c] false = .non := by unfold fndD; rw [List.drop_zero, q1]
      rw [e1, takD_none q1]
      simp only [isNn, truV, ev, evs, evo, evT, evto, evF, evQ, evI, ex, wr_bind, wr_ok, wr_exc, wt_o, wt_seq, wt_turn, wt_next, wt_brk, wt_cont, wt_ret, wt_exc, Pl.R.bind_ok, Pl.R.o_ok, Pl.R.bind_exc, Pl.R.o_exc, List.getElem?_cons_zero, List.getElem?_cons_succ, List.set_cons_zero, List.set_cons_succ]
      rw [wt_cons]
      simp only [ev, evs, evo, evT, evto, evF, evQ, evI, ex, wr_bind, wr_ok, wr_exc, wt_o, wt_seq, wt_turn, wt_next, wt_brk, wt_cont, wt_ret, wt_exc, Pl.R.bind_ok, Pl.R.o_ok, Pl.R.bind_exc, Pl.R.o_exc, List.getElem?_cons_zero, List.getElem?_cons_succ, List.set_cons_zero, List.set_cons_succ]
      exact frz_cl rfl
    · obtain ⟨g1, g2, g3, g4, g5⟩ := drop_next (n := 0) (p := p) (by rw [List.drop_zero]; exact q2)
      rw [Nat.zero_add] at g1 g2 g3 g4 g5
      have e1 : fndD p 0 [c] false = .int ((t.length : Nat) : Int) := by unfold fndD; rw [List.drop_zero, q1]; simp only [g5]
      have hsub : PrOk (nxt b r) := by
        refine prOk_sub hp ?_
        unfold nxt
        split
        · rw [← g3]; exact List.drop_sublist _ _
        · rw [← g4]; exact List.drop_sublist _ _
      rw [e1, takD_some q1]
      simp only [isNn, truV, ev, evs, evo, evT, evto, evF, evQ, evI, ex, wr_bind, wr_ok, wr_exc, wt_o, wt_seq, wt_turn, wt_next, wt_brk, wt_cont, wt_ret, wt_exc, Pl.R.bind_ok, Pl.R.o_ok, Pl.R.bind_exc, Pl.R.o_exc, List.getElem?_cons_zero, List.getElem?_cons_succ, List.set_cons_zero, List.set_cons_succ]
      rw [wt_nil]
      dsimp only
      rw [wt_cons]
      obtain ⟨bw, bm⟩ := b
      have hix : ∀ S, idxV (.tup (p.map dAt)) (.int ((t.length : Nat) : Int)) S = .ok (dAt (bw, bm)) S := fun S => idxV_tup (atI_go (by omega) (by rw [Int.toNat_natCast, List.getElem?_map, g2]; rfl))
      simp only [ev, evs, evo, evT, evto, evF, evQ, evI, ex, wr_bind, wr_ok, wr_exc, wt_o, wt_seq, wt_turn, wt_next, wt_brk, wt_cont, wt_ret, wt_exc, Pl.R.bind_ok, Pl.R.o_ok, Pl.R.bind_exc, Pl.R.o_exc, List.getElem?_cons_zero, List.getElem?_cons_succ, List.set_cons_zero, List.set_cons_succ, hix, at_1, truV]
      cases bm with
      | true =>
        simp only [ev, evs, evo, evT, evto, evF, evQ, evI, ex, wr_bind, wr_ok, wr_exc, wt_o, wt_seq, wt_turn, wt_next, wt_brk, wt_cont, wt_ret, wt_exc, Pl.R.bind_ok, Pl.R.o_ok, Pl.R.bind_exc, Pl.R.o_exc, List.getElem?_cons_zero, List.getElem?_cons_succ, List.set_cons_zero, List.set_cons_succ, sli_tup, cut_from]
        rw [← List.map_drop, g3]
        rw [show nxt (bw, true) r = (bw, true) :: r from rfl] at hsub ⊢
        have := hM _ [] hsub
        simp only [dP] at this ⊢
        simp only [ev, evs, evo, evT, evto, evF, evQ, evI, ex, wr_bind, wr_ok, wr_exc, wt_o, wt_seq, wt_turn, wt_next, wt_brk, wt_cont, wt_ret, wt_exc, Pl.R.bind_ok, Pl.R.o_ok, Pl.R.bind_exc, Pl.R.o_exc, List.getElem?_cons_zero, List.getElem?_cons_succ, List.set_cons_zero, List.set_cons_succ, this]
        exact frz_cl (cl_P _)
      | false =>
        simp only [ev, evs, evo, evT, evto, evF, evQ, evI, ex, wr_bind, wr_ok, wr_exc, wt_o, wt_seq, wt_turn, wt_next, wt_brk, wt_cont, wt_ret, wt_exc, Pl.R.bind_ok, Pl.R.o_ok, Pl.R.bind_exc, Pl.R.o_exc, List.getElem?_cons_zero, List.getElem?_cons_succ, List.set_cons_zero, List.set_cons_succ, v_add, show (((t.length : Nat) : Int) + 1) = ((t.length + 1 : Nat) : Int) by omega, sli_tup, cut_from]
        rw [← List.map_drop, g4]
        rw [show nxt (bw, false) r = r from rfl] at hsub ⊢
        have := hM _ [] hsub
        simp only [dP] at this ⊢
        simp only [ev, evs, evo, evT, evto, evF, evQ, evI, ex, wr_bind, wr_ok, wr_exc, wt_o, wt_seq, wt_turn, wt_next, wt_brk, wt_cont, wt_ret, wt_exc, Pl.R.bind_ok, Pl.R.o_ok, Pl.R.bind_exc, Pl.R.o_exc, List.getElem?_cons_zero, List.getElem?_cons_succ, List.set_cons_zero, List.set_cons_succ, this]
        exact frz_cl (cl_P _)
  refine pur hT rfl (by show (closedD 0 (dP p) && (true && true)) = true; rw [cl_P]; rfl) ?_ S
  show Wt (exs _ _ f_taken.body [some (dP p), some (.str [c])] []) _
  unfold f_taken
  rw [wt_cons]
  simp only [ev, evs, evo, evT, evto, evF, evQ, evI, ex, wr_bind, wr_ok, wr_exc, wt_o, wt_seq, wt_turn, wt_next, wt_brk, wt_cont, wt_ret, wt_exc, Pl.R.bind_ok, Pl.R.o_ok, Pl.R.bind_exc, Pl.R.o_exc, List.getElem?_cons_zero, List.getElem?_cons_succ, List.set_cons_zero, List.set_cons_succ, hN p [] hp]
  rw [wt_cons]
  simp only [ev, evs, evo, evT, evto, evF, evQ, evI, ex, wr_bind, wr_ok, wr_exc, wt_o, wt_seq, wt_turn, wt_next, wt_brk, wt_cont, wt_ret, wt_exc, Pl.R.bind_ok, Pl.R.o_ok, Pl.R.bind_exc, Pl.R.o_exc, List.getElem?_cons_zero, List.getElem?_cons_succ, List.set_cons_zero, List.set_cons_succ, hN2 c [] hc]
  rw [wt_cons]
  simp only [ev, evs, evo, evT, evto, evF, evQ, evI, ex, wr_bind, wr_ok, wr_exc, wt_o, wt_seq, wt_turn, wt_next, wt_brk, wt_cont, wt_ret, wt_exc, Pl.R.bind_ok, Pl.R.o_ok, Pl.R.bind_exc, Pl.R.o_exc, List.getElem?_cons_zero, List.getElem?_cons_succ, List.set_cons_zero, List.set_cons_succ, h2]
  exact frz_cl takD_cl
def swP (p : List At) (w : List Nat) : List At := if w = [] then p else p ++ [(w, true)]
def SpSwollen (C : Nat → List D → Sto → R D) : Prop := ∀ (p : List At) (w : List Nat) (S : Sto), PrOk p → p.length ≤ 900 → Lett w → w.Pairwise (· < ·) → w.length ≤ 100 → scp 0 false (C 149) [dP p, .str w] S = .ok (dP (mp (swP p w))) S
theorem swP_ok {p : List At} {w : List Nat} (hp : PrOk p) (hl : p.length ≤ 900) (h1 : Lett w) (h2 : w.Pairwise (· < ·)) (h3 : w.length ≤ 100) : PrOk (swP p w) := by
  unfold swP
  split
  · exact hp
  · rename_i h0
    exact prOk_app hp (many_ok h0 h1 h2 h3) (by show p.length + 1 ≤ 1000; omega)
theorem swollen_ok (hT : T 149 = some f_swollen) (hT2 : T 133 = some f_with_letters) {k : Nat} (hN : SpNeedProd (run T G (k + 1))) (hI : SpIsLetters (run T G (k + 1))) (hM : SpMade (run T G k)) : SpSwollen (run T G (k + 2)) := fun p w S hp hl h1 h2 h3 => by
  have hsw := swP_ok hp hl h1 h2 h3
  have h5 : ∀ S, scp 0 false (run T G (k + 1) 133) [dP p, .str w] S = .ok (dP (mp (swP p w))) S := fun S => by
    refine pur hT2 rfl (by show (closedD 0 (dP p) && (true && true)) = true; rw [cl_P]; rfl) ?_ S
    show Wt (exs _ _ f_with_letters.body [some (.tup (p.map dAt)), some (.str w)] []) _
    unfold f_with_letters
    rw [wt_cons]
    cases w with
    | nil =>
      have ht : ∀ S, truV (.str []) S = .ok false S := fun _ => rfl
      have := hM _ [] hsw
      simp only [swP, if_true, dP] at this ⊢
      simp only [ev, evs, evo, evT, evto, evF, evQ, evI, ex, wr_bind, wr_ok, wr_exc, wt_o, wt_seq, wt_turn, wt_next, wt_brk, wt_cont, wt_ret, wt_exc, Pl.R.bind_ok, Pl.R.o_ok, Pl.R.bind_exc, Pl.R.o_exc, List.getElem?_cons_zero, List.getElem?_cons_succ, List.set_cons_zero, List.set_cons_succ, ht, this]
      exact frz_cl (cl_P _)
    | cons x w =>
      have ht : ∀ S, truV (.str (x :: w)) S = .ok true S := fun _ => by
        have h4 : w.length + 1 ≤ lim := by
          have : w.length + 1 ≤ 100 := h3
          show w.length + 1 ≤ 100000
          omega
        simp [truV, h4]
      have hm := hM _ [] hsw
      simp only [ev, evs, evo, evT, evto, evF, evQ, evI, ex, wr_bind, wr_ok, wr_exc, wt_o, wt_seq, wt_turn, wt_next, wt_brk, wt_cont, wt_ret, wt_exc, Pl.R.bind_ok, Pl.R.o_ok, Pl.R.bind_exc, Pl.R.o_exc, List.getElem?_cons_zero, List.getElem?_cons_succ, List.set_cons_zero, List.set_cons_succ, ht]
      rw [if_pos (by show 2 ≤ 100000; omega)]
      simp only [ev, evs, evo, evT, evto, evF, evQ, evI, ex, wr_bind, wr_ok, wr_exc, wt_o, wt_seq, wt_turn, wt_next, wt_brk, wt_cont, wt_ret, wt_exc, Pl.R.bind_ok, Pl.R.o_ok, Pl.R.bind_exc, Pl.R.o_exc, List.getElem?_cons_zero, List.getElem?_cons_succ, List.set_cons_zero, List.set_cons_succ]
      rw [if_pos (by show 1 ≤ 100000; omega)]
      simp only [ev, evs, evo, evT, evto, evF, evQ, evI, ex, wr_bind, wr_ok, wr_exc, wt_o, wt_seq, wt_turn, wt_next, wt_brk, wt_cont, wt_ret, wt_exc, Pl.R.bind_ok, Pl.R.o_ok, Pl.R.bind_exc, Pl.R.o_exc, List.getElem?_cons_zero, List.getElem?_cons_succ, List.set_cons_zero, List.set_cons_succ]
      rw [add_tup (by simp; omega)]
      have e : D.tup (p.map dAt ++ [D.tup [.str (x :: w), .bl true]]) = dP (swP p (x :: w)) := by simp [dP, dAt, swP]
      simp only [ev, evs, evo, evT, evto, evF, evQ, evI, ex, wr_bind, wr_ok, wr_exc, wt_o, wt_seq, wt_turn, wt_next, wt_brk, wt_cont, wt_ret, wt_exc, Pl.R.bind_ok, Pl.R.o_ok, Pl.R.bind_exc, Pl.R.o_exc, List.getElem?_cons_zero, List.getElem?_cons_succ, List.set_cons_zero, List.set_cons_succ, e, hm]
      exact frz_cl (cl_P _)
  refine pur hT rfl (by show (closedD 0 (dP p) && (true && true)) = true; rw [cl_P]; rfl) ?_ S
  show Wt (exs _ _ f_swollen.body [some (dP p), some (.str w)] []) _
  unfold f_swollen
  rw [wt_cons]
  simp only [ev, evs, evo, evT, evto, evF, evQ, evI, ex, wr_bind, wr_ok, wr_exc, wt_o, wt_seq, wt_turn, wt_next, wt_brk, wt_cont, wt_ret, wt_exc, Pl.R.bind_ok, Pl.R.o_ok, Pl.R.bind_exc, Pl.R.o_exc, List.getElem?_cons_zero, List.getElem?_cons_succ, List.set_cons_zero, List.set_cons_succ, hN p [] hp]
  rw [wt_cons]
  simp only [ev, evs, evo, evT, evto, evF, evQ, evI, ex, wr_bind, wr_ok, wr_exc, wt_o, wt_seq, wt_turn, wt_next, wt_brk, wt_cont, wt_ret, wt_exc, Pl.R.bind_ok, Pl.R.o_ok, Pl.R.bind_exc, Pl.R.o_exc, List.getElem?_cons_zero, List.getElem?_cons_succ, List.set_cons_zero, List.set_cons_succ, hI w [] (by omega) h1 h2, truV, Bool.not_true]
  rw [wt_nil]
  try dsimp only
  rw [wt_cons]
  simp only [ev, evs, evo, evT, evto, evF, evQ, evI, ex, wr_bind, wr_ok, wr_exc, wt_o, wt_seq, wt_turn, wt_next, wt_brk, wt_cont, wt_ret, wt_exc, Pl.R.bind_ok, Pl.R.o_ok, Pl.R.bind_exc, Pl.R.o_exc, List.getElem?_cons_zero, List.getElem?_cons_succ, List.set_cons_zero, List.set_cons_succ, h5]
  exact frz_cl (cl_P _)
def SpLook (C : Nat → List D → Sto → R D) : Prop := ∀ (p : List At) (S : Sto), PrOk p → scp 0 false (C 150) [dP p] S = .ok (.bl (plB p)) S
theorem look_ok (hT : T 150 = some f__law_plain_look) (k : Nat) : SpLook (run T G (k + 1)) := fun p S hp => by
  refine pur hT rfl (by show (closedD 0 (dP p) && true) = true; rw [cl_P]; rfl) ?_ S
  show Wt (exs _ _ f__law_plain_look.body [some (.tup (p.map dAt)), none, none, none] []) _
  unfold f__law_plain_look
  have hpl := hp.len
  rw [wt_cons]
  have hc1 : cutL (p.map dAt) (some 1) none = (p.drop 1).map dAt := by rw [show cutL (p.map dAt) (some 1) none = (p.map dAt).drop 1 from cut_from _ 1, List.map_drop]
  have hz : ((p.map dAt).zip ((p.drop 1).map dAt)).map (fun xy => D.tup [xy.1, xy.2]) = (p.zip (p.drop 1)).map fun xy : At × At => D.tup [dAt xy.1, dAt xy.2] := by
    rw [List.zip_map, List.map_map]
    rfl
  have hgrd : ∀ (q : R Sv) (S : Sto), grd [] S S q = q := fun q S => by
    unfold grd
    rw [if_pos fun n hn => nomatch hn]
  simp only [ev, evs, evo, evT, evto, evF, evQ, evI, ex, wr_bind, wr_ok, wr_exc, wt_o, wt_seq, wt_turn, wt_next, wt_brk, wt_cont, wt_ret, wt_exc, Pl.R.bind_ok, Pl.R.o_ok, Pl.R.bind_exc, Pl.R.o_exc, List.getElem?_cons_zero, List.getElem?_cons_succ, List.set_cons_zero, List.set_cons_succ, seqV, sli_tup, hc1, hgrd, if_true, hz, List.append_nil]
  refine for_map (fun i ρ S' => ∃ (x y z : Option D), ρ = [some (.tup (p.map dAt)), x, y, z] ∧ S' = [] ∧ plB p = plB (p.drop i)) ⟨none, none, none, rfl, rfl, rfl⟩ (fun i a ρ S' hd hI => ?_) (fun ρ S' hI => ?_)
  · obtain ⟨x, y, z, rfl, rfl, he⟩ := hI
    obtain ⟨u, v⟩ := a
    obtain ⟨z1, z2⟩ := List.getElem?_zip_eq_some.mp hd
    rw [List.getElem?_drop, Nat.add_comm] at z2
    rw [plB_drop z1 z2] at he
    have hu := hp.ok u (List.mem_of_getElem? z1)
    have hv := hp.ok v (List.mem_of_getElem? z2)
    obtain ⟨uw, um⟩ := u
    obtain ⟨vw, vm⟩ := v
    have hul : uw.length ≤ 100 := hu.len
    have hvl : vw.length ≤ 100 := hv.len
    refine ⟨[some (.tup (p.map dAt)), some (dAt (uw, um)), some (dAt (vw, vm)), z], rfl, ?_⟩
    have hF : okp (uw, um) (vw, vm) = (!(vm && (uw.all fun c => decide (c ∈ vw))) && !(um && (vw.all fun c => decide (c ∈ uw)))) := rfl
    rw [hF] at he
    have second : plB p = (!(um && (vw.all fun c => decide (c ∈ uw))) && plB (p.drop (i + 1))) → Wt (exs (run T G k) G ([.if_ (.and_ (.ex (.idx (.var 1) (.cst (.int 1)))) (.ex (.all_ (.fr (.lc [("_law_letter", 3)] [3] false (.str (.idx (.var 2) (.cst (.int 0)))) none (.cmp .isin (.var 3) (.idx (.var 1) (.cst (.int 0))))))))) [.ret (.cst (.bl false))] []]) [some (.tup (p.map dAt)), some (dAt (uw, um)), some (dAt (vw, vm)), z] []) ⟨fun ρ S' => ∃ (x y z : Option D), ρ = [some (.tup (p.map dAt)), x, y, z] ∧ S' = [] ∧ plB p = plB (p.drop (i + 1)), no2, no2, fun v S1 => frz S1 0 6 v = some (.bl (plB p)), no2⟩ := fun he => by
      rw [wt_cons]
      simp only [ev, evs, evo, evT, evto, evF, evQ, evI, ex, wr_bind, wr_ok, wr_exc, wt_o, wt_seq, wt_turn, wt_next, wt_brk, wt_cont, wt_ret, wt_exc, Pl.R.bind_ok, Pl.R.o_ok, Pl.R.bind_exc, Pl.R.o_exc, List.getElem?_cons_zero, List.getElem?_cons_succ, List.set_cons_zero, List.set_cons_succ, at_1, truV]
      cases um with
      | false =>
        simp only [ev, evs, evo, evT, evto, evF, evQ, evI, ex, wr_bind, wr_ok, wr_exc, wt_o, wt_seq, wt_turn, wt_next, wt_brk, wt_cont, wt_ret, wt_exc, Pl.R.bind_ok, Pl.R.o_ok, Pl.R.bind_exc, Pl.R.o_exc, List.getElem?_cons_zero, List.getElem?_cons_succ, List.set_cons_zero, List.set_cons_succ]
        rw [wt_nil]
        try dsimp only
        rw [wt_nil]
        exact ⟨_, _, _, rfl, rfl, by rw [he]; rfl⟩
      | true =>
        simp only [ev, evs, evo, evT, evto, evF, evQ, evI, ex, wr_bind, wr_ok, wr_exc, wt_o, wt_seq, wt_turn, wt_next, wt_brk, wt_cont, wt_ret, wt_exc, Pl.R.bind_ok, Pl.R.o_ok, Pl.R.bind_exc, Pl.R.o_exc, List.getElem?_cons_zero, List.getElem?_cons_succ, List.set_cons_zero, List.set_cons_succ, at_0]
        rw [if_pos (by rw [List.length_map]; show _ ≤ 100000; omega)]
        rw [lc_map (e := fun c : Nat => D.str [c]) (fun c => D.bl (decide (c ∈ uw))) vw (fun c hc => by
          simp only [List.map_cons, List.map_nil, wipeD, bindTg, ev, evs, evo, evT, evto, evF, evQ, evI, ex, wr_bind, wr_ok, wr_exc, wt_o, wt_seq, wt_turn, wt_next, wt_brk, wt_cont, wt_ret, wt_exc, Pl.R.bind_ok, Pl.R.o_ok, Pl.R.bind_exc, Pl.R.o_exc, List.getElem?_cons_zero, List.getElem?_cons_succ, List.set_cons_zero, List.set_cons_succ, at_0, in_one])]
        simp only [ev, evs, evo, evT, evto, evF, evQ, evI, ex, wr_bind, wr_ok, wr_exc, wt_o, wt_seq, wt_turn, wt_next, wt_brk, wt_cont, wt_ret, wt_exc, Pl.R.bind_ok, Pl.R.o_ok, Pl.R.bind_exc, Pl.R.o_exc, List.getElem?_cons_zero, List.getElem?_cons_succ, List.set_cons_zero, List.set_cons_succ, Bool.false_eq_true, if_false, bools_map, all_id, truV]
        cases h1 : (vw.all fun c => decide (c ∈ uw)) with
        | false =>
          simp only [ev, evs, evo, evT, evto, evF, evQ, evI, ex, wr_bind, wr_ok, wr_exc, wt_o, wt_seq, wt_turn, wt_next, wt_brk, wt_cont, wt_ret, wt_exc, Pl.R.bind_ok, Pl.R.o_ok, Pl.R.bind_exc, Pl.R.o_exc, List.getElem?_cons_zero, List.getElem?_cons_succ, List.set_cons_zero, List.set_cons_succ]
          rw [wt_nil]
          try dsimp only
          rw [wt_nil]
          exact ⟨_, _, _, rfl, rfl, by rw [he, h1]; rfl⟩
        | true =>
          simp only [ev, evs, evo, evT, evto, evF, evQ, evI, ex, wr_bind, wr_ok, wr_exc, wt_o, wt_seq, wt_turn, wt_next, wt_brk, wt_cont, wt_ret, wt_exc, Pl.R.bind_ok, Pl.R.o_ok, Pl.R.bind_exc, Pl.R.o_exc, List.getElem?_cons_zero, List.getElem?_cons_succ, List.set_cons_zero, List.set_cons_succ]
          rw [wt_cons]
          simp only [ev, evs, evo, evT, evto, evF, evQ, evI, ex, wr_bind, wr_ok, wr_exc, wt_o, wt_seq, wt_turn, wt_next, wt_brk, wt_cont, wt_ret, wt_exc, Pl.R.bind_ok, Pl.R.o_ok, Pl.R.bind_exc, Pl.R.o_exc, List.getElem?_cons_zero, List.getElem?_cons_succ, List.set_cons_zero, List.set_cons_succ]
          rw [he, h1]
          exact frz_cl rfl
    have go : plB p = (!(um && (vw.all fun c => decide (c ∈ uw))) && plB (p.drop (i + 1))) → ∀ E : Ed, E.nx = (fun ρ S' => ∃ (x y z : Option D), ρ = [some (.tup (p.map dAt)), x, y, z] ∧ S' = [] ∧ plB p = plB (p.drop (i + 1))) → E.rt = (fun v S1 => frz S1 0 6 v = some (.bl (plB p))) → Wt (exs (run T G k) G ([.if_ (.and_ (.ex (.idx (.var 1) (.cst (.int 1)))) (.ex (.all_ (.fr (.lc [("_law_letter", 3)] [3] false (.str (.idx (.var 2) (.cst (.int 0)))) none (.cmp .isin (.var 3) (.idx (.var 1) (.cst (.int 0))))))))) [.ret (.cst (.bl false))] []]) [some (.tup (p.map dAt)), some (dAt (uw, um)), some (dAt (vw, vm)), z] []) E := fun h E e1 e2 => (second h).mono (fun ρ S h => by rw [e1]; exact h) (fun _ _ z => z.elim) (fun _ _ z => z.elim) (fun v S h => by rw [e2]; exact h) fun _ _ z => z.elim
    rw [wt_cons]
    simp only [ev, evs, evo, evT, evto, evF, evQ, evI, ex, wr_bind, wr_ok, wr_exc, wt_o, wt_seq, wt_turn, wt_next, wt_brk, wt_cont, wt_ret, wt_exc, Pl.R.bind_ok, Pl.R.o_ok, Pl.R.bind_exc, Pl.R.o_exc, List.getElem?_cons_zero, List.getElem?_cons_succ, List.set_cons_zero, List.set_cons_succ, at_1, truV]
    cases vm with
    | false =>
      simp only [ev, evs, evo, evT, evto, evF, evQ, evI, ex, wr_bind, wr_ok, wr_exc, wt_o, wt_seq, wt_turn, wt_next, wt_brk, wt_cont, wt_ret, wt_exc, Pl.R.bind_ok, Pl.R.o_ok, Pl.R.bind_exc, Pl.R.o_exc, List.getElem?_cons_zero, List.getElem?_cons_succ, List.set_cons_zero, List.set_cons_succ]
      rw [wt_nil]
      try dsimp only
      exact go he _ rfl rfl
    | true =>
      simp only [ev, evs, evo, evT, evto, evF, evQ, evI, ex, wr_bind, wr_ok, wr_exc, wt_o, wt_seq, wt_turn, wt_next, wt_brk, wt_cont, wt_ret, wt_exc, Pl.R.bind_ok, Pl.R.o_ok, Pl.R.bind_exc, Pl.R.o_exc, List.getElem?_cons_zero, List.getElem?_cons_succ, List.set_cons_zero, List.set_cons_succ, at_0]
      rw [if_pos (by rw [List.length_map]; show _ ≤ 100000; omega)]
      rw [lc_map (e := fun c : Nat => D.str [c]) (fun c => D.bl (decide (c ∈ vw))) uw (fun c hc => by
        simp only [List.map_cons, List.map_nil, wipeD, bindTg, ev, evs, evo, evT, evto, evF, evQ, evI, ex, wr_bind, wr_ok, wr_exc, wt_o, wt_seq, wt_turn, wt_next, wt_brk, wt_cont, wt_ret, wt_exc, Pl.R.bind_ok, Pl.R.o_ok, Pl.R.bind_exc, Pl.R.o_exc, List.getElem?_cons_zero, List.getElem?_cons_succ, List.set_cons_zero, List.set_cons_succ, at_0, in_one])]
      simp only [ev, evs, evo, evT, evto, evF, evQ, evI, ex, wr_bind, wr_ok, wr_exc, wt_o, wt_seq, wt_turn, wt_next, wt_brk, wt_cont, wt_ret, wt_exc, Pl.R.bind_ok, Pl.R.o_ok, Pl.R.bind_exc, Pl.R.o_exc, List.getElem?_cons_zero, List.getElem?_cons_succ, List.set_cons_zero, List.set_cons_succ, Bool.false_eq_true, if_false, bools_map, all_id, truV]
      cases h1 : (uw.all fun c => decide (c ∈ vw)) with
      | false =>
        simp only [ev, evs, evo, evT, evto, evF, evQ, evI, ex, wr_bind, wr_ok, wr_exc, wt_o, wt_seq, wt_turn, wt_next, wt_brk, wt_cont, wt_ret, wt_exc, Pl.R.bind_ok, Pl.R.o_ok, Pl.R.bind_exc, Pl.R.o_exc, List.getElem?_cons_zero, List.getElem?_cons_succ, List.set_cons_zero, List.set_cons_succ]
        rw [wt_nil]
        try dsimp only
        exact go (by rw [he, h1]; rfl) _ rfl rfl
      | true =>
        simp only [ev, evs, evo, evT, evto, evF, evQ, evI, ex, wr_bind, wr_ok, wr_exc, wt_o, wt_seq, wt_turn, wt_next, wt_brk, wt_cont, wt_ret, wt_exc, Pl.R.bind_ok, Pl.R.o_ok, Pl.R.bind_exc, Pl.R.o_exc, List.getElem?_cons_zero, List.getElem?_cons_succ, List.set_cons_zero, List.set_cons_succ]
        rw [wt_cons]
        simp only [ev, evs, evo, evT, evto, evF, evQ, evI, ex, wr_bind, wr_ok, wr_exc, wt_o, wt_seq, wt_turn, wt_next, wt_brk, wt_cont, wt_ret, wt_exc, Pl.R.bind_ok, Pl.R.o_ok, Pl.R.bind_exc, Pl.R.o_exc, List.getElem?_cons_zero, List.getElem?_cons_succ, List.set_cons_zero, List.set_cons_succ]
        rw [he, h1]
        exact frz_cl rfl
  · obtain ⟨x, y, z, rfl, rfl, he⟩ := hI
    try dsimp only
    rw [wt_cons]
    simp only [ev, evs, evo, evT, evto, evF, evQ, evI, ex, wr_bind, wr_ok, wr_exc, wt_o, wt_seq, wt_turn, wt_next, wt_brk, wt_cont, wt_ret, wt_exc, Pl.R.bind_ok, Pl.R.o_ok, Pl.R.bind_exc, Pl.R.o_exc, List.getElem?_cons_zero, List.getElem?_cons_succ, List.set_cons_zero, List.set_cons_succ]
    rw [he]
    have : plB (p.drop (p.zip (p.drop 1)).length) = true := by
      rw [List.length_zip, List.length_drop]
      cases p with
      | nil => rfl
      | cons a p =>
        have h2 : ((a :: p).drop (min (a :: p).length ((a :: p).length - 1))).length = 1 := by rw [List.length_drop, List.length_cons]; omega
        obtain ⟨b, hb⟩ := List.length_eq_one_iff.mp h2
        rw [hb]
        rfl
    rw [this]
    exact frz_cl rfl
def SpTailIn (C : Nat → List D → Sto → R D) : Prop := ∀ (p : List At) (u w : List Nat) (S : Sto), p.length ≤ 10000 → u.length ≤ 1000 → scp 0 false (C 152) [dP p, .str u, .str w] S = .ok (.bl (tailB u p w)) S
theorem tailin_ok (hT : T 152 = some f__law_tail_in) {k : Nat} (hH : SpLHolds (run T G k)) : SpTailIn (run T G (k + 1)) := fun p u w S hp hu => by
  refine pur hT rfl (by show (closedD 0 (dP p) && (true && (true && true))) = true; rw [cl_P]; rfl) ?_ S
  show Wt (exs _ _ f__law_tail_in.body [some (dP p), some (.str u), some (.str w), none, none] []) _
  unfold f__law_tail_in
  have hul : u.length ≤ lim := by show u.length ≤ 100000; omega
  rw [wt_cons]
  simp only [ev, evs, evo, evT, evto, evF, evQ, evI, ex, wr_bind, wr_ok, wr_exc, wt_o, wt_seq, wt_turn, wt_next, wt_brk, wt_cont, wt_ret, wt_exc, Pl.R.bind_ok, Pl.R.o_ok, Pl.R.bind_exc, Pl.R.o_exc, List.getElem?_cons_zero, List.getElem?_cons_succ, List.set_cons_zero, List.set_cons_succ, len_str hul, v_add]
  rw [if_pos (by omega)]
  simp only [ev, evs, evo, evT, evto, evF, evQ, evI, ex, wr_bind, wr_ok, wr_exc, wt_o, wt_seq, wt_turn, wt_next, wt_brk, wt_cont, wt_ret, wt_exc, Pl.R.bind_ok, Pl.R.o_ok, Pl.R.bind_exc, Pl.R.o_exc, List.getElem?_cons_zero, List.getElem?_cons_succ, List.set_cons_zero, List.set_cons_succ]
  have hn : ((u.length : Int) + 1).toNat = u.length + 1 := by omega
  rw [hn]
  refine for_map (e := fun k : Nat => D.int (k : Int)) (fun i ρ S' => ∃ (x : Option D), ρ = [some (dP p), some (.str u), some (.str w), x, none] ∧ S' = [] ∧ ∀ j, j < i → (lies (wP (u.take j)) p && (u.drop j).all fun c => decide (c ∈ w)) = false) ⟨none, rfl, rfl, fun j hj => absurd hj (Nat.not_lt_zero _)⟩ (fun i n ρ S' hd hI => ?_) (fun ρ S' hI => ?_)
  · obtain ⟨x, rfl, rfl, hf⟩ := hI
    have hi : i < u.length + 1 := by
      have := (List.getElem?_eq_some_iff.mp hd).1
      rwa [List.length_range] at this
    have hni : n = i := by
      rw [List.getElem?_range hi] at hd
      exact (Option.some.inj hd).symm
    subst hni
    refine ⟨[some (dP p), some (.str u), some (.str w), some (.int (n : Int)), none], rfl, ?_⟩
    have hnext : (lies (wP (u.take n)) p && (u.drop n).all fun c => decide (c ∈ w)) = false → ∃ (x : Option D), [some (dP p), some (.str u), some (.str w), some (.int (n : Int)), none] = [some (dP p), some (.str u), some (.str w), x, none] ∧ ([] : Sto) = [] ∧ ∀ j, j < n + 1 → (lies (wP (u.take j)) p && (u.drop j).all fun c => decide (c ∈ w)) = false := fun h => ⟨_, rfl, rfl, fun j hj => by
      rcases Nat.lt_or_ge j n with h2 | h2
      · exact hf j h2
      · rw [show j = n by omega]; exact h⟩
    have hHH := hH p (u.take n) [] hp (by rw [List.length_take]; omega)
    rw [wt_cons]
    simp only [ev, evs, evo, evT, evto, evF, evQ, evI, ex, wr_bind, wr_ok, wr_exc, wt_o, wt_seq, wt_turn, wt_next, wt_brk, wt_cont, wt_ret, wt_exc, Pl.R.bind_ok, Pl.R.o_ok, Pl.R.bind_exc, Pl.R.o_exc, List.getElem?_cons_zero, List.getElem?_cons_succ, List.set_cons_zero, List.set_cons_succ, sli_str hul, cut_to, cut_from, hHH, truV]
    cases h1 : lies (wP (u.take n)) p with
    | false =>
      rw [h1] at hnext
      simp only [ev, evs, evo, evT, evto, evF, evQ, evI, ex, wr_bind, wr_ok, wr_exc, wt_o, wt_seq, wt_turn, wt_next, wt_brk, wt_cont, wt_ret, wt_exc, Pl.R.bind_ok, Pl.R.o_ok, Pl.R.bind_exc, Pl.R.o_exc, List.getElem?_cons_zero, List.getElem?_cons_succ, List.set_cons_zero, List.set_cons_succ]
      rw [wt_nil]
      try dsimp only
      rw [wt_nil]
      exact hnext rfl
    | true =>
      rw [h1] at hnext
      simp only [ev, evs, evo, evT, evto, evF, evQ, evI, ex, wr_bind, wr_ok, wr_exc, wt_o, wt_seq, wt_turn, wt_next, wt_brk, wt_cont, wt_ret, wt_exc, Pl.R.bind_ok, Pl.R.o_ok, Pl.R.bind_exc, Pl.R.o_exc, List.getElem?_cons_zero, List.getElem?_cons_succ, List.set_cons_zero, List.set_cons_succ, sli_str hul, cut_from]
      rw [if_pos (by rw [List.length_map, List.length_drop]; show _ ≤ 100000; omega)]
      rw [lc_map (e := fun c : Nat => D.str [c]) (fun c => D.bl (decide (c ∈ w))) (u.drop n) (fun c hc => by
        simp only [List.map_cons, List.map_nil, wipeD, bindTg, ev, evs, evo, evT, evto, evF, evQ, evI, ex, wr_bind, wr_ok, wr_exc, wt_o, wt_seq, wt_turn, wt_next, wt_brk, wt_cont, wt_ret, wt_exc, Pl.R.bind_ok, Pl.R.o_ok, Pl.R.bind_exc, Pl.R.o_exc, List.getElem?_cons_zero, List.getElem?_cons_succ, List.set_cons_zero, List.set_cons_succ, in_one])]
      simp only [ev, evs, evo, evT, evto, evF, evQ, evI, ex, wr_bind, wr_ok, wr_exc, wt_o, wt_seq, wt_turn, wt_next, wt_brk, wt_cont, wt_ret, wt_exc, Pl.R.bind_ok, Pl.R.o_ok, Pl.R.bind_exc, Pl.R.o_exc, List.getElem?_cons_zero, List.getElem?_cons_succ, List.set_cons_zero, List.set_cons_succ, Bool.false_eq_true, if_false, bools_map, all_id, truV]
      cases h2 : ((u.drop n).all fun c => decide (c ∈ w)) with
      | false =>
        rw [h2] at hnext
        simp only [ev, evs, evo, evT, evto, evF, evQ, evI, ex, wr_bind, wr_ok, wr_exc, wt_o, wt_seq, wt_turn, wt_next, wt_brk, wt_cont, wt_ret, wt_exc, Pl.R.bind_ok, Pl.R.o_ok, Pl.R.bind_exc, Pl.R.o_exc, List.getElem?_cons_zero, List.getElem?_cons_succ, List.set_cons_zero, List.set_cons_succ]
        rw [wt_nil]
        try dsimp only
        rw [wt_nil]
        exact hnext rfl
      | true =>
        simp only [ev, evs, evo, evT, evto, evF, evQ, evI, ex, wr_bind, wr_ok, wr_exc, wt_o, wt_seq, wt_turn, wt_next, wt_brk, wt_cont, wt_ret, wt_exc, Pl.R.bind_ok, Pl.R.o_ok, Pl.R.bind_exc, Pl.R.o_exc, List.getElem?_cons_zero, List.getElem?_cons_succ, List.set_cons_zero, List.set_cons_succ]
        rw [wt_cons]
        simp only [ev, evs, evo, evT, evto, evF, evQ, evI, ex, wr_bind, wr_ok, wr_exc, wt_o, wt_seq, wt_turn, wt_next, wt_brk, wt_cont, wt_ret, wt_exc, Pl.R.bind_ok, Pl.R.o_ok, Pl.R.bind_exc, Pl.R.o_exc, List.getElem?_cons_zero, List.getElem?_cons_succ, List.set_cons_zero, List.set_cons_succ]
        have : tailB u p w = true := by
          unfold tailB
          rw [List.any_eq_true]
          exact ⟨n, List.mem_range.mpr hi, by rw [h1, h2]; rfl⟩
        rw [this]
        exact frz_cl rfl
  · obtain ⟨x, rfl, rfl, hf⟩ := hI
    try dsimp only
    rw [wt_cons]
    simp only [ev, evs, evo, evT, evto, evF, evQ, evI, ex, wr_bind, wr_ok, wr_exc, wt_o, wt_seq, wt_turn, wt_next, wt_brk, wt_cont, wt_ret, wt_exc, Pl.R.bind_ok, Pl.R.o_ok, Pl.R.bind_exc, Pl.R.o_exc, List.getElem?_cons_zero, List.getElem?_cons_succ, List.set_cons_zero, List.set_cons_succ]
    have : tailB u p w = false := by
      unfold tailB
      rw [List.any_eq_false]
      intro n hn
      have h2 := hf n (by rw [List.length_range]; exact List.mem_range.mp hn)
      rw [h2]
      exact Bool.false_ne_true
    rw [this]
    exact frz_cl rfl
/-- all words of some letters -/
def edge (ls : List Nat) : Nat → List (List Nat)
  | 0 => [[]]
  | n + 1 => (edge ls n).flatMap fun w => ls.map fun c => w ++ [c]
def wordsTo (ls : List Nat) : Nat → List (List Nat)
  | 0 => [[]]
  | n + 1 => wordsTo ls n ++ edge ls (n + 1)
theorem edge_ok {ls : List Nat} (hl : ls.length ≤ 6) : ∀ n, (edge ls n).length ≤ 6 ^ n ∧ ∀ w ∈ edge ls n, w.length = n ∧ ∀ c ∈ w, c ∈ ls
  | 0 => ⟨by simp [edge], fun w hw => by rw [List.mem_singleton.mp hw]; exact ⟨rfl, fun _ h => nomatch h⟩⟩
  | n + 1 => by
    obtain ⟨h1, h2⟩ := edge_ok hl n
    refine ⟨?_, fun w hw => ?_⟩
    · have : ∀ (L : List (List Nat)), (L.flatMap fun w => ls.map fun c => w ++ [c]).length ≤ L.length * 6 := fun L => by
        induction L with
        | nil => simp
        | cons w L ih => rw [List.flatMap_cons, List.length_append, List.length_map, List.length_cons]; omega
      have h3 := this (edge ls n)
      rw [Nat.pow_succ]
      exact Nat.le_trans h3 (Nat.mul_le_mul_right 6 h1)
    · obtain ⟨v, hv, hw⟩ := List.mem_flatMap.mp hw
      obtain ⟨c, hc, rfl⟩ := List.mem_map.mp hw
      obtain ⟨e1, e2⟩ := h2 v hv
      exact ⟨by simp [e1], fun x hx => by
        rcases List.mem_append.mp hx with hx | hx
        · exact e2 x hx
        · rw [List.mem_singleton.mp hx]; exact hc⟩
theorem wordsTo_ok {ls : List Nat} (hl : ls.length ≤ 6) : ∀ n, (wordsTo ls n).length ≤ (n + 1) * 6 ^ n ∧ ∀ w ∈ wordsTo ls n, w.length ≤ n ∧ ∀ c ∈ w, c ∈ ls
  | 0 => ⟨by simp [wordsTo], fun w hw => by rw [List.mem_singleton.mp hw]; exact ⟨Nat.zero_le _, fun _ h => nomatch h⟩⟩
  | n + 1 => by
    obtain ⟨h1, h2⟩ := wordsTo_ok hl n
    obtain ⟨h3, h4⟩ := edge_ok hl (n + 1)
    refine ⟨?_, fun w hw => ?_⟩
    · show (wordsTo ls n ++ edge ls (n + 1)).length ≤ _
      rw [List.length_append]
      have e : (n + 1 + 1) * 6 ^ (n + 1) = (n + 1) * 6 ^ (n + 1) + 6 ^ (n + 1) := Nat.succ_mul _ _
      have e2 : (n + 1) * 6 ^ n ≤ (n + 1) * 6 ^ (n + 1) := Nat.mul_le_mul_left _ (Nat.pow_le_pow_right (by decide) (by omega))
      omega
    · rcases List.mem_append.mp hw with hw | hw
      · exact ⟨by have := (h2 w hw).1; omega, (h2 w hw).2⟩
      · exact ⟨by have := (h4 w hw).1; omega, (h4 w hw).2⟩
def SpWordsTo (C : Nat → List D → Sto → R D) : Prop := ∀ (ls : List Nat) (n : Nat) (S : Sto), ls.length ≤ 6 → n ≤ 4 → scp 0 false (C 151) [.fro (ls.map one), .int (n : Int)] S = .ok (.fro ((wordsTo ls n).map D.str)) S
theorem wordsto_ok (hT : T 151 = some f__law_words_to) (k : Nat) : SpWordsTo (run T G (k + 1)) := fun ls n S hl hn => by
  refine pur hT rfl (by show (closedL 0 (ls.map one) && (true && true)) = true; rw [closedL_map fun _ => rfl]; rfl) ?_ S
  show Wt (exs _ _ f__law_words_to.body [some (.fro (ls.map one)), some (.int (n : Int)), none, none, none, none, none, none] []) _
  unfold f__law_words_to
  have h6 : ∀ i, i ≤ 4 → 6 ^ i ≤ 1296 := fun i hi => by
    have : 6 ^ i ≤ 6 ^ 4 := Nat.pow_le_pow_right (by decide) hi
    exact this
  rw [wt_cons]
  simp only [ev, evs, evo, evT, evto, evF, evQ, evI, ex, wr_bind, wr_ok, wr_exc, wt_o, wt_seq, wt_turn, wt_next, wt_brk, wt_cont, wt_ret, wt_exc, Pl.R.bind_ok, Pl.R.o_ok, Pl.R.bind_exc, Pl.R.o_exc, List.getElem?_cons_zero, List.getElem?_cons_succ, List.set_cons_zero, List.set_cons_succ, List.length_cons, List.length_nil]
  rw [if_pos (by decide)]
  simp only [ev, evs, evo, evT, evto, evF, evQ, evI, ex, wr_bind, wr_ok, wr_exc, wt_o, wt_seq, wt_turn, wt_next, wt_brk, wt_cont, wt_ret, wt_exc, Pl.R.bind_ok, Pl.R.o_ok, Pl.R.bind_exc, Pl.R.o_exc, List.getElem?_cons_zero, List.getElem?_cons_succ, List.set_cons_zero, List.set_cons_succ]
  rw [wt_cons]
  simp only [ev, evs, evo, evT, evto, evF, evQ, evI, ex, wr_bind, wr_ok, wr_exc, wt_o, wt_seq, wt_turn, wt_next, wt_brk, wt_cont, wt_ret, wt_exc, Pl.R.bind_ok, Pl.R.o_ok, Pl.R.bind_exc, Pl.R.o_exc, List.getElem?_cons_zero, List.getElem?_cons_succ, List.set_cons_zero, List.set_cons_succ, List.length_cons, List.length_nil]
  rw [if_pos (by decide)]
  simp only [ev, evs, evo, evT, evto, evF, evQ, evI, ex, wr_bind, wr_ok, wr_exc, wt_o, wt_seq, wt_turn, wt_next, wt_brk, wt_cont, wt_ret, wt_exc, Pl.R.bind_ok, Pl.R.o_ok, Pl.R.bind_exc, Pl.R.o_exc, List.getElem?_cons_zero, List.getElem?_cons_succ, List.set_cons_zero, List.set_cons_succ]
  rw [wt_cons]
  simp only [ev, evs, evo, evT, evto, evF, evQ, evI, ex, wr_bind, wr_ok, wr_exc, wt_o, wt_seq, wt_turn, wt_next, wt_brk, wt_cont, wt_ret, wt_exc, Pl.R.bind_ok, Pl.R.o_ok, Pl.R.bind_exc, Pl.R.o_exc, List.getElem?_cons_zero, List.getElem?_cons_succ, List.set_cons_zero, List.set_cons_succ]
  rw [if_pos (by omega), Int.toNat_natCast]
  simp only [ev, evs, evo, evT, evto, evF, evQ, evI, ex, wr_bind, wr_ok, wr_exc, wt_o, wt_seq, wt_turn, wt_next, wt_brk, wt_cont, wt_ret, wt_exc, Pl.R.bind_ok, Pl.R.o_ok, Pl.R.bind_exc, Pl.R.o_exc, List.getElem?_cons_zero, List.getElem?_cons_succ, List.set_cons_zero, List.set_cons_succ]
  refine for_map (e := fun k : Nat => D.int (k : Int)) (fun i ρ S' => ∃ (x y z u : Option D), ρ = [some (.fro (ls.map one)), some (.int (n : Int)), some (.fro ((wordsTo ls i).map D.str)), some (.fro ((edge ls i).map D.str)), x, y, z, u] ∧ S' = []) ⟨none, none, none, none, rfl, rfl⟩ (fun i a ρ S' hd hI => ?_) (fun ρ S' hI => ?_)
  · obtain ⟨x, y, z, u, rfl, rfl⟩ := hI
    have hi : i < n := by
      have := (List.getElem?_eq_some_iff.mp hd).1
      rwa [List.length_range] at this
    obtain ⟨e1, e2⟩ := edge_ok hl i
    obtain ⟨w1, w2⟩ := wordsTo_ok hl i
    have h6i := h6 i (by omega)
    refine ⟨[some (.fro (ls.map one)), some (.int (n : Int)), some (.fro ((wordsTo ls i).map D.str)), some (.fro ((edge ls i).map D.str)), some (.int (a : Int)), y, z, u], rfl, ?_⟩
    rw [wt_cons]
    simp only [ev, evs, evo, evT, evto, evF, evQ, evI, ex, wr_bind, wr_ok, wr_exc, wt_o, wt_seq, wt_turn, wt_next, wt_brk, wt_cont, wt_ret, wt_exc, Pl.R.bind_ok, Pl.R.o_ok, Pl.R.bind_exc, Pl.R.o_exc, List.getElem?_cons_zero, List.getElem?_cons_succ, List.set_cons_zero, List.set_cons_succ, List.length_nil, Nat.zero_le, if_true]
    rw [wt_cons]
    simp only [ev, evs, evo, evT, evto, evF, evQ, evI, ex, wr_bind, wr_ok, wr_exc, wt_o, wt_seq, wt_turn, wt_next, wt_brk, wt_cont, wt_ret, wt_exc, Pl.R.bind_ok, Pl.R.o_ok, Pl.R.bind_exc, Pl.R.o_exc, List.getElem?_cons_zero, List.getElem?_cons_succ, List.set_cons_zero, List.set_cons_succ, seqV]
    refine for_map (e := D.str) (fun j ρ S' => ∃ (z u : Option D), ρ = [some (.fro (ls.map one)), some (.int (n : Int)), some (.fro ((wordsTo ls i).map D.str)), some (.fro ((edge ls i).map D.str)), some (.int (a : Int)), some (.fro ((((edge ls i).take j).flatMap fun w => ls.map fun c => w ++ [c]).map D.str)), z, u] ∧ S' = []) ⟨z, u, rfl, rfl⟩ (fun j v ρ S' hdj hI => ?_) (fun ρ S' hI => ?_)
    · obtain ⟨z, u, rfl, rfl⟩ := hI
      have hj := (List.getElem?_eq_some_iff.mp hdj).1
      have et : (edge ls i).take (j + 1) = (edge ls i).take j ++ [v] := by rw [List.take_add_one, hdj]; rfl
      have hv := (e2 v (List.mem_of_getElem? hdj)).1
      refine ⟨[some (.fro (ls.map one)), some (.int (n : Int)), some (.fro ((wordsTo ls i).map D.str)), some (.fro ((edge ls i).map D.str)), some (.int (a : Int)), some (.fro ((((edge ls i).take j).flatMap fun w => ls.map fun c => w ++ [c]).map D.str)), some (.str v), u], rfl, ?_⟩
      have hfl : ∀ (L : List (List Nat)), (L.flatMap fun w => ls.map fun c => w ++ [c]).length ≤ L.length * 6 := fun L => by
        induction L with
        | nil => simp
        | cons w L ih => rw [List.flatMap_cons, List.length_append, List.length_map, List.length_cons]; omega
      have hfj := hfl ((edge ls i).take j)
      have htj : ((edge ls i).take j).length ≤ 1296 := by rw [List.length_take]; omega
      rw [wt_cons]
      simp only [ev, evs, evo, evT, evto, evF, evQ, evI, ex, wr_bind, wr_ok, wr_exc, wt_o, wt_seq, wt_turn, wt_next, wt_brk, wt_cont, wt_ret, wt_exc, Pl.R.bind_ok, Pl.R.o_ok, Pl.R.bind_exc, Pl.R.o_exc, List.getElem?_cons_zero, List.getElem?_cons_succ, List.set_cons_zero, List.set_cons_succ, seqV]
      rw [if_pos (by rw [List.length_map]; show _ ≤ 100000; omega)]
      rw [lc_map (e := one) (fun c => D.str (v ++ [c])) ls (fun c hc => by
        simp only [List.map_cons, List.map_nil, wipeD, bindTg, ev, evs, evo, evT, evto, evF, evQ, evI, ex, wr_bind, wr_ok, wr_exc, wt_o, wt_seq, wt_turn, wt_next, wt_brk, wt_cont, wt_ret, wt_exc, Pl.R.bind_ok, Pl.R.o_ok, Pl.R.bind_exc, Pl.R.o_exc, List.getElem?_cons_zero, List.getElem?_cons_succ, List.set_cons_zero, List.set_cons_succ, one]
        rw [add_str (by simp; omega)]
        rfl)]
      simp only [ev, evs, evo, evT, evto, evF, evQ, evI, ex, wr_bind, wr_ok, wr_exc, wt_o, wt_seq, wt_turn, wt_next, wt_brk, wt_cont, wt_ret, wt_exc, Pl.R.bind_ok, Pl.R.o_ok, Pl.R.bind_exc, Pl.R.o_exc, List.getElem?_cons_zero, List.getElem?_cons_succ, List.set_cons_zero, List.set_cons_succ]
      rw [add_fro (by simp only [List.length_map]; omega)]
      simp only [ev, evs, evo, evT, evto, evF, evQ, evI, ex, wr_bind, wr_ok, wr_exc, wt_o, wt_seq, wt_turn, wt_next, wt_brk, wt_cont, wt_ret, wt_exc, Pl.R.bind_ok, Pl.R.o_ok, Pl.R.bind_exc, Pl.R.o_exc, List.getElem?_cons_zero, List.getElem?_cons_succ, List.set_cons_zero, List.set_cons_succ]
      rw [wt_nil]
      refine ⟨some (.str v), u, ?_, rfl⟩
      rw [et, List.flatMap_append, List.map_append]
      simp [List.flatMap_cons, Function.comp_def]
    · obtain ⟨z, u, rfl, rfl⟩ := hI
      try dsimp only
      rw [List.take_length]
      have he : ((edge ls i).flatMap fun w => ls.map fun c => w ++ [c]) = edge ls (i + 1) := rfl
      rw [he]
      obtain ⟨f1, _⟩ := edge_ok hl (i + 1)
      have h6j := h6 (i + 1) (by omega)
      have w3 : (wordsTo ls i).length ≤ 5 * 1296 := Nat.le_trans w1 (Nat.mul_le_mul (by omega) h6i)
      rw [wt_cons]
      simp only [ev, evs, evo, evT, evto, evF, evQ, evI, ex, wr_bind, wr_ok, wr_exc, wt_o, wt_seq, wt_turn, wt_next, wt_brk, wt_cont, wt_ret, wt_exc, Pl.R.bind_ok, Pl.R.o_ok, Pl.R.bind_exc, Pl.R.o_exc, List.getElem?_cons_zero, List.getElem?_cons_succ, List.set_cons_zero, List.set_cons_succ]
      rw [wt_cons]
      simp only [ev, evs, evo, evT, evto, evF, evQ, evI, ex, wr_bind, wr_ok, wr_exc, wt_o, wt_seq, wt_turn, wt_next, wt_brk, wt_cont, wt_ret, wt_exc, Pl.R.bind_ok, Pl.R.o_ok, Pl.R.bind_exc, Pl.R.o_exc, List.getElem?_cons_zero, List.getElem?_cons_succ, List.set_cons_zero, List.set_cons_succ]
      rw [add_fro (by simp only [List.length_map]; omega)]
      simp only [ev, evs, evo, evT, evto, evF, evQ, evI, ex, wr_bind, wr_ok, wr_exc, wt_o, wt_seq, wt_turn, wt_next, wt_brk, wt_cont, wt_ret, wt_exc, Pl.R.bind_ok, Pl.R.o_ok, Pl.R.bind_exc, Pl.R.o_exc, List.getElem?_cons_zero, List.getElem?_cons_succ, List.set_cons_zero, List.set_cons_succ]
      rw [wt_nil]
      refine ⟨some (.int (a : Int)), some (.fro ((edge ls (i + 1)).map D.str)), z, u, ?_, rfl⟩
      rw [← List.map_append]
      rfl
  · obtain ⟨x, y, z, u, rfl, rfl⟩ := hI
    try dsimp only
    rw [wt_cons, List.length_range]
    simp only [ev, evs, evo, evT, evto, evF, evQ, evI, ex, wr_bind, wr_ok, wr_exc, wt_o, wt_seq, wt_turn, wt_next, wt_brk, wt_cont, wt_ret, wt_exc, Pl.R.bind_ok, Pl.R.o_ok, Pl.R.bind_exc, Pl.R.o_exc, List.getElem?_cons_zero, List.getElem?_cons_succ, List.set_cons_zero, List.set_cons_succ]
    exact frz_cl (closedL_map fun _ => rfl)
end
end Pl

set_option maxRecDepth 100000
set_option maxHeartbeats 0
namespace Lk33
open PySem PySem.Spec PyProof.Rows L2 Pl
def top (i : Nat) : Stmt := PySem.Challenge.pw_leakpost_k33_products_sent_taken_swollen.main.body.getD i (.Pass ⟨0, 0, 0, 0⟩)
/-- is_word: text sign -/
def d_is_word : Dn := ⟨"is_word", "is_word", none, [], top 6, ["text"], ["text", "sign"], Pl.f_is_word⟩
/-- is_letter: text -/
def d_is_letter : Dn := ⟨"is_letter", "is_letter", none, [], top 7, ["text"], ["text"], Pl.f_is_letter⟩
/-- is_letters: text at -/
def d_is_letters : Dn := ⟨"is_letters", "is_letters", none, [], top 9, ["text"], ["text", "at"], Pl.f_is_letters⟩
/-- is_product: thing letters many -/
def d_is_product : Dn := ⟨"is_product", "is_product", none, [], top 10, ["thing"], ["thing", "letters", "many"], Pl.f_is_product⟩
/-- need_product: thing -/
def d_need_product : Dn := ⟨"need_product", "need_product", none, [], top 11, ["thing"], ["thing"], Pl.f_need_product⟩
/-- need_letter: letter -/
def d_need_letter : Dn := ⟨"need_letter", "need_letter", none, [], top 12, ["letter"], ["letter"], Pl.f_need_letter⟩
/-- has_all: letters others letter -/
def d_has_all : Dn := ⟨"has_all", "has_all", none, [], top 13, ["letters", "others"], ["letters", "others", "letter"], Pl.f_has_all⟩
/-- found_by: product at letters many spot -/
def d_found_by : Dn := ⟨"found_by", "found_by", none, [], top 14, ["product", "at", "letters", "many"], ["product", "at", "letters", "many", "spot"], Pl.f_found_by⟩
/-- holds: product word letter -/
def d_holds : Dn := ⟨"holds", "holds", none, [], top 15, ["product", "word"], ["product", "word", "letter"], Pl.f_holds⟩
/-- lies_in: one other at letters many spot -/
def d_lies_in : Dn := ⟨"lies_in", "lies_in", none, [], top 16, ["one", "other"], ["one", "other", "at", "letters", "many", "spot"], Pl.f_lies_in⟩
/-- made_plain: product kept letters many -/
def d_made_plain : Dn := ⟨"made_plain", "made_plain", none, [], top 17, ["product"], ["product", "kept", "letters", "many"], Pl.f_made_plain⟩
/-- with_letter: product letter -/
def d_with_letter : Dn := ⟨"with_letter", "with_letter", none, [], top 18, ["product", "letter"], ["product", "letter"], Pl.f_with_letter⟩
/-- without_letter: product letter spot -/
def d_without_letter : Dn := ⟨"without_letter", "without_letter", none, [], top 19, ["product", "letter"], ["product", "letter", "spot"], Pl.f_without_letter⟩
/-- with_letters: product letters -/
def d_with_letters : Dn := ⟨"with_letters", "with_letters", none, [], top 20, ["product", "letters"], ["product", "letters"], Pl.f_with_letters⟩
/-- sent: product letter -/
def d_sent : Dn := ⟨"sent", "sent", none, [], top 21, ["product", "letter"], ["product", "letter"], Pl.f_sent⟩
/-- taken: product letter -/
def d_taken : Dn := ⟨"taken", "taken", none, [], top 22, ["product", "letter"], ["product", "letter"], Pl.f_taken⟩
/-- swollen: product letters -/
def d_swollen : Dn := ⟨"swollen", "swollen", none, [], top 23, ["product", "letters"], ["product", "letters"], Pl.f_swollen⟩
/-- _law_bag: _law_script _law_seed _law_cell -/
def d__law_bag : Dn := ⟨"_law_bag", "_law_bag", none, [], top 25, ["_law_script"], ["_law_script", "_law_seed", "_law_cell"], Pl.f__law_bag⟩
/-- _law_pull: _law_bag_here _law_many _law_cell _law_one _law_two _law_rest -/
def d__law_pull : Dn := ⟨"_law_pull", "_law_pull", none, [], top 26, ["_law_bag_here", "_law_many"], ["_law_bag_here", "_law_many", "_law_cell", "_law_one", "_law_two", "_law_rest"], Pl.f__law_pull⟩
/-- _law_of: _law_bag_here _law_some -/
def d__law_of : Dn := ⟨"_law_of", "_law_of", none, [], top 27, ["_law_bag_here", "_law_some"], ["_law_bag_here", "_law_some"], Pl.f__law_of⟩
/-- _law_same: _law_found _law_due _law_a _law_b -/
def d__law_same : Dn := ⟨"_law_same", "_law_same", none, [], top 28, ["_law_found", "_law_due"], ["_law_found", "_law_due", "_law_a", "_law_b"], Pl.f__law_same⟩
/-- _law_letters: _law_bag_here _law_alphabet _law_first _law_by _law_k -/
def d__law_letters : Dn := ⟨"_law_letters", "_law_letters", none, [], top 29, ["_law_bag_here"], ["_law_bag_here", "_law_alphabet", "_law_first", "_law_by", "_law_k"], Pl.f__law_letters⟩
/-- _law_word: _law_bag_here _law_letters_here _law_top _law_k -/
def d__law_word : Dn := ⟨"_law_word", "_law_word", none, [], top 30, ["_law_bag_here", "_law_letters_here", "_law_top"], ["_law_bag_here", "_law_letters_here", "_law_top", "_law_k"], Pl.f__law_word⟩
/-- _law_product: _law_bag_here _law_letters_here _law_top _law_found _law_k _law_some _law_many _law_letter -/
def d__law_product : Dn := ⟨"_law_product", "_law_product", none, [], top 31, ["_law_bag_here", "_law_letters_here", "_law_top"], ["_law_bag_here", "_law_letters_here", "_law_top", "_law_found", "_law_k", "_law_some", "_law_many", "_law_letter"], Pl.f__law_product⟩
/-- _law_words_to: _law_letters_here _law_top _law_found _law_edge _law_k _law_longer _law_word_here _law_letter -/
def d__law_words_to : Dn := ⟨"_law_words_to", "_law_words_to", none, [], top 32, ["_law_letters_here", "_law_top"], ["_law_letters_here", "_law_top", "_law_found", "_law_edge", "_law_k", "_law_longer", "_law_word_here", "_law_letter"], Pl.f__law_words_to⟩
/-- _law_holds: _law_product_here _law_word_here _law_first _law_sign _law_places _law_at -/
def d__law_holds : Dn := ⟨"_law_holds", "_law_holds", none, [], top 33, ["_law_product_here", "_law_word_here"], ["_law_product_here", "_law_word_here", "_law_first", "_law_sign", "_law_places", "_law_at"], Pl.f__law_holds⟩
/-- _law_six: _law_bag_here _law_alphabet _law_start _law_by _law_k -/
def d__law_six : Dn := ⟨"_law_six", "_law_six", none, [], top 34, ["_law_bag_here"], ["_law_bag_here", "_law_alphabet", "_law_start", "_law_by", "_law_k"], Pl.f__law_six⟩
/-- _law_plain_look: _law_product_here _law_one _law_other _law_letter -/
def d__law_plain_look : Dn := ⟨"_law_plain_look", "_law_plain_look", none, [], top 35, ["_law_product_here"], ["_law_product_here", "_law_one", "_law_other", "_law_letter"], Pl.f__law_is_plain⟩
/-- _law_tail_in: _law_product_here _law_word_here _law_tail _law_at _law_letter -/
def d__law_tail_in : Dn := ⟨"_law_tail_in", "_law_tail_in", none, [], top 36, ["_law_product_here", "_law_word_here", "_law_tail"], ["_law_product_here", "_law_word_here", "_law_tail", "_law_at", "_law_letter"], Pl.f__law_tail_in⟩
/-- law: _law_script _law_bag_here _law_letters_here _law_some _law_product_here _law_sign _law_tail _law_made _law_words _law_word_here _law_due _law_letter _law_k _law_row -/
def f_law : Fn := ⟨1, 14, [
  .asg 1 (.call 13 [(.var 0)]),
  .asg 2 (.ifx (.cmp .eq (.calls 2 false 2 [(.var 1), (.cst (.int 2))]) (.cst (.int 0))) (.calls 2 false 6 [(.var 1)]) (.calls 2 false 137 [(.var 1)])),
  .asg 3 (.sli (.var 2) none (some (.bin .add (.cst (.int 1)) (.calls 2 false 2 [(.var 1), (.len (.var 2))])))),
  .asg 4 (.calls 2 false 134 [(.var 1), (.var 3), (.cst (.int 5))]),
  .asg 5 (.calls 2 false 4 [(.var 1), (.var 2)]),
  .asg 6 (.join (.cst (.str [])) (.fr (.lc [("_law_letter", 11)] [11] false (.sq (.fr (.sortT (.ex (.var 3))))) (some (.cmp .eq (.calls 2 false 2 [(.var 1), (.cst (.int 2))]) (.cst (.int 0)))) (.var 11)))),
  .asg 7 (.frn (.lst [(.calls 0 false 147 [(.var 4), (.var 5)]), (.calls 0 false 148 [(.var 4), (.var 5)]), (.calls 0 false 149 [(.var 4), (.var 6)])])),
  .if_ (.cmp .eq (.cmp .isN (.idx (.var 7) (.cst (.int 1))) (.cst .non)) (.calls 0 false 139 [(.var 4), (.var 5)])) [.ret (.cst (.bl false))] [],
  .if_ (.not_ (.ex (.all_ (.fr (.lc [("_law_row", 13)] [13] false (.sq (.ex (.var 7))) (some (.cmp .notN (.var 13) (.cst .non))) (.and_ (.isi (.var 13) .tuple) (.calls 0 false 150 [(.var 13)]))))))) [.ret (.cst (.bl false))] [],
  .asg 8 (.calls 0 false 151 [(.var 2), (.idx (.frn (.lst [(.cst (.int 4)), (.cst (.int 2))])) (.intb (.cmp .gt (.len (.var 2)) (.cst (.int 3)))))]),
  .for_ [9] false (.sq (.ex (.bin .add (.var 8) (.frn (.lc [("_law_k", 12)] [12] false (.rng (.cst (.int 25))) none (.calls 2 false 7 [(.var 1), (.var 2), (.cst (.int 8))])))))) [.asg 10 (.calls 0 false 139 [(.var 4), (.var 9)]), .if_ (.cmp .eq (.sli (.var 9) (some (.neg (.cst (.int 1)))) none) (.var 5)) [.asg 10 (.or_ (.var 10) (.calls 0 false 139 [(.var 4), (.sli (.var 9) none (some (.neg (.cst (.int 1)))))]))] [], .if_ (.or_ (.cmp .ne (.calls 0 false 139 [(.idx (.var 7) (.cst (.int 0))), (.var 9)]) (.var 10)) (.cmp .ne (.calls 0 false 138 [(.idx (.var 7) (.cst (.int 0))), (.var 9)]) (.var 10))) [.ret (.cst (.bl false))] [], .asg 10 (.calls 0 false 139 [(.var 4), (.bin .add (.var 5) (.var 9))]), .if_ (.and_ (.cmp .notN (.idx (.var 7) (.cst (.int 1))) (.cst .non)) (.cmp .ne (.calls 0 false 139 [(.idx (.var 7) (.cst (.int 1))), (.var 9)]) (.var 10))) [.ret (.cst (.bl false))] [], .if_ (.cmp .ne (.calls 0 false 139 [(.idx (.var 7) (.cst (.int 2))), (.var 9)]) (.calls 0 false 152 [(.var 4), (.var 9), (.var 6)])) [.ret (.cst (.bl false))] []],
  .ret (.calls 0 false 3 [(.calls 0 false 149 [(.tup []), (.cst (.str []))]), (.tup [])])]⟩
def d_law : Dn := ⟨"law", "law", none, [], top 37, ["_law_script"], ["_law_script", "_law_bag_here", "_law_letters_here", "_law_some", "_law_product_here", "_law_sign", "_law_tail", "_law_made", "_law_words", "_law_word_here", "_law_due", "_law_letter", "_law_k", "_law_row"], f_law⟩
def dl : List (Nat × Dn) := [(21, d_is_word), (24, d_is_letter), (126, d_is_letters), (127, d_is_product), (128, d_need_product), (130, d_need_letter), (106, d_has_all), (107, d_found_by), (138, d_holds), (108, d_lies_in), (129, d_made_plain), (131, d_with_letter), (132, d_without_letter), (133, d_with_letters), (147, d_sent), (148, d_taken), (149, d_swollen), (13, d__law_bag), (2, d__law_pull), (4, d__law_of), (3, d__law_same), (6, d__law_letters), (7, d__law_word), (134, d__law_product), (151, d__law_words_to), (139, d__law_holds), (137, d__law_six), (150, d__law_plain_look), (152, d__law_tail_in), (18, d_law)]
def nl : List (Nat × Str) := [(21, "is_word"), (24, "is_letter"), (126, "is_letters"), (127, "is_product"), (128, "need_product"), (130, "need_letter"), (106, "has_all"), (107, "found_by"), (138, "holds"), (108, "lies_in"), (129, "made_plain"), (131, "with_letter"), (132, "without_letter"), (133, "with_letters"), (147, "sent"), (148, "taken"), (149, "swollen"), (13, "_law_bag"), (2, "_law_pull"), (4, "_law_of"), (3, "_law_same"), (6, "_law_letters"), (7, "_law_word"), (134, "_law_product"), (151, "_law_words_to"), (139, "_law_holds"), (137, "_law_six"), (150, "_law_plain_look"), (152, "_law_tail_in"), (18, "law"), (19, "LETTERS")]
def kwl : List (Nat × Nat × List Str × List Nat) := []
def gvl : List (Nat × D) := [(19, (.str alph))]
def fls : List (Nat × Str) := []
def mls : List (Nat × Str × Nat) := []
def ils : List (Nat × Nat) := []
def L : Lw := ⟨dl, nl, kwl, gvl, fls, mls, ils⟩
def loose : List PySem.Str := (["LeakError", "BadWord", "BadAtom", "LETTERS", "is_word", "is_letter", "is_letters", "is_product", "need_product", "need_letter", "has_all", "found_by", "holds", "lies_in", "made_plain", "with_letter", "without_letter", "with_letters", "sent", "taken", "swollen", "_law_bag", "_law_pull", "_law_of", "_law_same", "_law_letters", "_law_word", "_law_product", "_law_words_to", "_law_holds"] : List PySem.Str) ++ (["_law_six", "_law_plain_look", "_law_tail_in"] : List PySem.Str)
def lawF : Nat := 18
abbrev Row0 : PySem.W.OpenRow := PySem.W.OpenLaw.row PySem.Challenge.rw_leakpost_k33_products_sent_taken_swollen
def lawAt : Nat := 37
theorem bd : ∀ (f : Nat) (d : Nat × Dn), dl[f]? = some d → BindA d.2
  | 0, d, h => by cases h; exact .inl ⟨rfl, fun _ _ _ _ _ _ us hl => match us, hl with | [_], _ => rfl⟩
  | 1, d, h => by cases h; exact .inl ⟨rfl, fun _ _ _ _ _ _ us hl => match us, hl with | [_], _ => rfl⟩
  | 2, d, h => by cases h; exact .inl ⟨rfl, fun _ _ _ _ _ _ us hl => match us, hl with | [_], _ => rfl⟩
  | 3, d, h => by cases h; exact .inl ⟨rfl, fun _ _ _ _ _ _ us hl => match us, hl with | [_], _ => rfl⟩
  | 4, d, h => by cases h; exact .inl ⟨rfl, fun _ _ _ _ _ _ us hl => match us, hl with | [_], _ => rfl⟩
  | 5, d, h => by cases h; exact .inl ⟨rfl, fun _ _ _ _ _ _ us hl => match us, hl with | [_], _ => rfl⟩
  | 6, d, h => by cases h; exact .inl ⟨rfl, fun _ _ _ _ _ _ us hl => match us, hl with | [_, _], _ => rfl⟩
  | 7, d, h => by cases h; exact .inl ⟨rfl, fun _ _ _ _ _ _ us hl => match us, hl with | [_, _, _, _], _ => rfl⟩
  | 8, d, h => by cases h; exact .inl ⟨rfl, fun _ _ _ _ _ _ us hl => match us, hl with | [_, _], _ => rfl⟩
  | 9, d, h => by cases h; exact .inl ⟨rfl, fun _ _ _ _ _ _ us hl => match us, hl with | [_, _], _ => rfl⟩
  | 10, d, h => by cases h; exact .inl ⟨rfl, fun _ _ _ _ _ _ us hl => match us, hl with | [_], _ => rfl⟩
  | 11, d, h => by cases h; exact .inl ⟨rfl, fun _ _ _ _ _ _ us hl => match us, hl with | [_, _], _ => rfl⟩
  | 12, d, h => by cases h; exact .inl ⟨rfl, fun _ _ _ _ _ _ us hl => match us, hl with | [_, _], _ => rfl⟩
  | 13, d, h => by cases h; exact .inl ⟨rfl, fun _ _ _ _ _ _ us hl => match us, hl with | [_, _], _ => rfl⟩
  | 14, d, h => by cases h; exact .inl ⟨rfl, fun _ _ _ _ _ _ us hl => match us, hl with | [_, _], _ => rfl⟩
  | 15, d, h => by cases h; exact .inl ⟨rfl, fun _ _ _ _ _ _ us hl => match us, hl with | [_, _], _ => rfl⟩
  | 16, d, h => by cases h; exact .inl ⟨rfl, fun _ _ _ _ _ _ us hl => match us, hl with | [_, _], _ => rfl⟩
  | 17, d, h => by cases h; exact .inl ⟨rfl, fun _ _ _ _ _ _ us hl => match us, hl with | [_], _ => rfl⟩
  | 18, d, h => by cases h; exact .inl ⟨rfl, fun _ _ _ _ _ _ us hl => match us, hl with | [_, _], _ => rfl⟩
  | 19, d, h => by cases h; exact .inl ⟨rfl, fun _ _ _ _ _ _ us hl => match us, hl with | [_, _], _ => rfl⟩
  | 20, d, h => by cases h; exact .inl ⟨rfl, fun _ _ _ _ _ _ us hl => match us, hl with | [_, _], _ => rfl⟩
  | 21, d, h => by cases h; exact .inl ⟨rfl, fun _ _ _ _ _ _ us hl => match us, hl with | [_], _ => rfl⟩
  | 22, d, h => by cases h; exact .inl ⟨rfl, fun _ _ _ _ _ _ us hl => match us, hl with | [_, _, _], _ => rfl⟩
  | 23, d, h => by cases h; exact .inl ⟨rfl, fun _ _ _ _ _ _ us hl => match us, hl with | [_, _, _], _ => rfl⟩
  | 24, d, h => by cases h; exact .inl ⟨rfl, fun _ _ _ _ _ _ us hl => match us, hl with | [_, _], _ => rfl⟩
  | 25, d, h => by cases h; exact .inl ⟨rfl, fun _ _ _ _ _ _ us hl => match us, hl with | [_, _], _ => rfl⟩
  | 26, d, h => by cases h; exact .inl ⟨rfl, fun _ _ _ _ _ _ us hl => match us, hl with | [_], _ => rfl⟩
  | 27, d, h => by cases h; exact .inl ⟨rfl, fun _ _ _ _ _ _ us hl => match us, hl with | [_], _ => rfl⟩
  | 28, d, h => by cases h; exact .inl ⟨rfl, fun _ _ _ _ _ _ us hl => match us, hl with | [_, _, _], _ => rfl⟩
  | 29, d, h => by cases h; exact .inl ⟨rfl, fun _ _ _ _ _ _ us hl => match us, hl with | [_], _ => rfl⟩
  | n + 30, d, h => by cases h
theorem kb : ∀ (f : Nat) (d : Nat × Dn), dl[f]? = some d → ∀ q ∈ kwl, q.1 = d.1 → KwP d.2 q.2.1 q.2.2.1 q.2.2.2 := by
  intro f d h q hq e
  cases hq
theorem ok : L.Ok := ⟨by kernel_rfl, by decide, by kernel_rfl, bd, kb⟩
abbrev hk : PySem.W.Hook := He.hookD 6 L.fa L.fn
def ob (s : PySem.W.SharedT) : He.AlD := He.obsDG 6 L.fa L.fn (HandSHeadRun.getT s)
theorem ob_eq (s : PySem.W.SharedT) : ob s = hk.obs s.abs := He.obsDG_eq (HandSHeadRun.getT_eq s)
theorem head (w : World) : HandSHeadRun.RunEq Row0 (PySem.W.view Row0.prog [lawAt]) hk ob 9000 loose w := by
  refine PySem.W.byRow2 (P := fun w => HandSHeadRun.RunEq Row0 (PySem.W.view Row0.prog [lawAt]) hk ob 9000 loose w) "special-get-raises" (fun w => ?_) (fun w => ?_) w
  · intro os; kernel_rfl
  · intro os; kernel_rfl
end Lk33
namespace Lk33
open PySem L2 Pl
section
abbrev TT := L.tab.tab
theorem hG : L.G 19 = some (.str alph) := rfl
theorem hpull (k : Nat) : SpPull (run TT L.G (k + 1)) := pull_ok rfl k
theorem hof (k : Nat) : SpOf (run TT L.G (k + 2)) := of_ok rfl (hpull k)
theorem hsame (k : Nat) : SpSame 5 (run TT L.G (5 + k)) := same_ok rfl 5 k
theorem hletters (k : Nat) : SpLetters (run TT L.G (k + 3)) := letters_ok rfl (hpull (k + 1)) (hof k)
theorem hword (k : Nat) : SpWord (run TT L.G (k + 3)) := word_ok rfl (hpull (k + 1)) (hof k)
theorem hisword (k : Nat) : SpIsWord (run TT L.G (k + 1)) := isword_ok rfl hG k
theorem hhasall (k : Nat) : SpHasAll (run TT L.G (k + 1)) := hasall_ok rfl k
theorem hisletters (k : Nat) : SpIsLetters (run TT L.G (k + 2)) := isletters_ok rfl (hisword k)
theorem hisprod (k : Nat) : SpIsProd (run TT L.G (k + 3)) := isprod_ok rfl (hisletters k)
theorem hneed (k : Nat) : SpNeedProd (run TT L.G (k + 4)) := needprod_ok rfl (hisprod k)
theorem hfound (k : Nat) : SpFound (run TT L.G (k + 2)) := found_ok rfl (hhasall k)
theorem hlies (k : Nat) : SpLies (run TT L.G (k + 3)) := liesin_ok rfl (hfound k)
theorem hlholds (k : Nat) : SpLHolds (run TT L.G (k + 1)) := lholds_ok rfl k
theorem hproduct (k : Nat) : SpProduct (run TT L.G (k + 3)) := product_ok rfl (hpull (k + 1)) (hof k)
theorem hsix (k : Nat) : SpSix (run TT L.G (k + 2)) := six_ok rfl (hpull k)
theorem hbag (k : Nat) : SpBag (run TT L.G (k + 1)) := bag_ok rfl k
theorem hmade (k : Nat) : SpMade (run TT L.G (k + 2)) := made_ok rfl (hhasall k)
theorem hholds (k : Nat) : SpHolds (run TT L.G (k + 5)) := holds_ok rfl (hneed k) (hisword (k + 3)) (hlies (k + 1))
theorem hisletter (k : Nat) : SpIsLetter1 (run TT L.G (k + 1)) := isletter_ok rfl hG k
theorem hneedl (k : Nat) : SpNeedLetter (run TT L.G (k + 2)) := needletter_ok rfl (hisletter k)
theorem hsent (k : Nat) : SpSent (run TT L.G (k + 5)) := sent_ok rfl rfl (hneed k) (hneedl (k + 2)) (hmade (k + 1))
theorem htaken (k : Nat) : SpTaken (run TT L.G (k + 5)) := taken_ok rfl rfl (hneed k) (hneedl (k + 2)) (hmade (k + 1)) (hfound (k + 1))
theorem hswollen (k : Nat) : SpSwollen (run TT L.G (k + 5)) := swollen_ok rfl rfl (hneed k) (hisletters (k + 2)) (hmade (k + 1))
theorem hlook (k : Nat) : SpLook (run TT L.G (k + 1)) := look_ok rfl k
theorem htailin (k : Nat) : SpTailIn (run TT L.G (k + 2)) := tailin_ok rfl (hlholds k)
theorem hwordsto (k : Nat) : SpWordsTo (run TT L.G (k + 1)) := wordsto_ok rfl k
theorem dat_bl {b : Bool} : dat 5 (.bl b) := trivial
theorem cut_last (u : List Nat) : cutL u (some (-1)) none = u.drop (u.length - 1) := by
  cases u with
  | nil => rfl
  | cons c u =>
    unfold cutL
    have e : HT.sIx (c :: u).length 0 (some (-1)) = u.length := by
      unfold HT.sIx
      simp only [List.length_cons]
      split <;> omega
    rw [e, HT.sIx_none]
    rw [List.take_of_length_le (by simp)]
    rfl
theorem cut_but (u : List Nat) : cutL u none (some (-1)) = u.dropLast := by
  cases u with
  | nil => rfl
  | cons c u =>
    unfold cutL
    have e : HT.sIx (c :: u).length (c :: u).length (some (-1)) = u.length := by
      unfold HT.sIx
      simp only [List.length_cons]
      split <;> omega
    rw [e, HT.sIx_none, List.drop_zero, Nat.sub_zero, List.dropLast_eq_take]
    rfl
theorem last_iff {u : List Nat} {c : Nat} : (u.drop (u.length - 1) = [c]) ↔ u.getLast? = some c := by
  rcases List.eq_nil_or_concat u with rfl | ⟨v, d, rfl⟩
  · simp
  · rw [List.concat_eq_append]
    have : (v ++ [d]).drop ((v ++ [d]).length - 1) = [d] := by simp
    rw [this]
    simp
theorem lw : L.Law 30 lawF := fun ns hns => by
  have rest : ∀ (B : Bg) (ls : List Nat), LsOk ls → 3 ≤ ls.length → Wt (exs (run TT L.G 29) L.G (f_law.body.drop 2) [some (.scr (ns.map D.int)), some (.ref 1), some (.fro (ls.map one)), none, none, none, none, none, none, none, none, none, none, none] (B.on [])) ⟨fun _ S => (D.non = .bl true), no2, no2, fun d _ => d = .bl true, no2⟩ := by
    intro B ls hls h3
    have hhi := hls.hi
    simp only [f_law, List.drop_succ_cons, List.drop_zero]
    rw [wt_cons]
    simp only [ev, evs, evo, evT, evto, evF, evQ, evI, ex, wr_bind, wr_ok, wr_exc, wt_o, wt_seq, wt_turn, wt_next, wt_brk, wt_cont, wt_ret, wt_exc, Pl.R.bind_ok, Pl.R.o_ok, Pl.R.bind_exc, Pl.R.o_exc, List.getElem?_cons_zero, List.getElem?_cons_succ, List.set_cons_zero, List.set_cons_succ, len_fro, List.length_map]
    refine hpull 28 B _ _ _ _ (by have := hls.lo; omega) (by omega) fun r B1 r0 r1 => ?_
    have hr : (1 : Int) + r = ((1 + r.toNat : Nat) : Int) := by omega
    simp only [ev, evs, evo, evT, evto, evF, evQ, evI, ex, wr_bind, wr_ok, wr_exc, wt_o, wt_seq, wt_turn, wt_next, wt_brk, wt_cont, wt_ret, wt_exc, Pl.R.bind_ok, Pl.R.o_ok, Pl.R.bind_exc, Pl.R.o_exc, List.getElem?_cons_zero, List.getElem?_cons_succ, List.set_cons_zero, List.set_cons_succ, v_add, sli_fro, hr, cut_to]
    rw [← List.map_take]
    have hsome := hls.take (n := 1 + r.toNat) (by omega)
    generalize ls.take (1 + r.toNat) = sm at hsome
    have hsh := hsome.hi
    rw [wt_cons]
    simp only [ev, evs, evo, evT, evto, evF, evQ, evI, ex, wr_bind, wr_ok, wr_exc, wt_o, wt_seq, wt_turn, wt_next, wt_brk, wt_cont, wt_ret, wt_exc, Pl.R.bind_ok, Pl.R.o_ok, Pl.R.bind_exc, Pl.R.o_exc, List.getElem?_cons_zero, List.getElem?_cons_succ, List.set_cons_zero, List.set_cons_succ]
    refine hproduct 26 B1 sm 5 _ _ _ hsome.lo (by omega) hsome.nd hsome.lt (by decide) (by decide) fun p B2 hp hpl hpm => ?_
    rw [wt_cons]
    simp only [ev, evs, evo, evT, evto, evF, evQ, evI, ex, wr_bind, wr_ok, wr_exc, wt_o, wt_seq, wt_turn, wt_next, wt_brk, wt_cont, wt_ret, wt_exc, Pl.R.bind_ok, Pl.R.o_ok, Pl.R.bind_exc, Pl.R.o_exc, List.getElem?_cons_zero, List.getElem?_cons_succ, List.set_cons_zero, List.set_cons_succ]
    refine (hof 27).map (e := one) hls.lo (by omega) (fun _ => rfl) fun c B3 hc => ?_
    have hcA := hls.lt c hc
    obtain ⟨sl, s1, s2, s3⟩ := sort_ones hsome.nd
    have hss : strsD (sm.map one) = some (sm.map fun c => [c]) := strs_of sm
    have hsl : sl.length = sm.length := s2.length_eq
    rw [wt_cons]
    simp only [ev, evs, evo, evT, evto, evF, evQ, evI, ex, wr_bind, wr_ok, wr_exc, wt_o, wt_seq, wt_turn, wt_next, wt_brk, wt_cont, wt_ret, wt_exc, Pl.R.bind_ok, Pl.R.o_ok, Pl.R.bind_exc, Pl.R.o_exc, List.getElem?_cons_zero, List.getElem?_cons_succ, List.set_cons_zero, List.set_cons_succ, seqV, Bool.false_eq_true, if_false, hss, s1]
    rw [if_pos (by rw [List.length_map]; omega)]
    simp only [ev, evs, evo, evT, evto, evF, evQ, evI, ex, wr_bind, wr_ok, wr_exc, wt_o, wt_seq, wt_turn, wt_next, wt_brk, wt_cont, wt_ret, wt_exc, Pl.R.bind_ok, Pl.R.o_ok, Pl.R.bind_exc, Pl.R.o_exc, List.getElem?_cons_zero, List.getElem?_cons_succ, List.set_cons_zero, List.set_cons_succ]
    rw [show (List.map D.str (List.map (fun c => [c]) sl)) = sl.map one by rw [List.map_map]; rfl]
    rw [if_pos (by rw [List.length_map]; show _ ≤ 100000; omega)]
    simp only [List.length_nil]
    refine draw_sub (by omega) (fun c B => ?_) fun w B4 hw => ?_
    · simp only [List.map_cons, List.map_nil, wipeD, bindTg, ev, evs, evo, evT, evto, evF, evQ, evI, ex, wr_bind, wr_ok, wr_exc, wt_o, wt_seq, wt_turn, wt_next, wt_brk, wt_cont, wt_ret, wt_exc, Pl.R.bind_ok, Pl.R.o_ok, Pl.R.bind_exc, Pl.R.o_exc, List.getElem?_cons_zero, List.getElem?_cons_succ, List.set_cons_zero, List.set_cons_succ, evto, one]
      refine hpull 28 B _ _ _ _ (by decide) (by decide) fun r B' _ _ => ?_
      simp only [ev, evs, evo, evT, evto, evF, evQ, evI, ex, wr_bind, wr_ok, wr_exc, wt_o, wt_seq, wt_turn, wt_next, wt_brk, wt_cont, wt_ret, wt_exc, Pl.R.bind_ok, Pl.R.o_ok, Pl.R.bind_exc, Pl.R.o_exc, List.getElem?_cons_zero, List.getElem?_cons_succ, List.set_cons_zero, List.set_cons_succ, c_eqi]
      by_cases hr : r = 0
      · simp only [hr, decide_true, ev, evs, evo, evT, evto, evF, evQ, evI, ex, wr_bind, wr_ok, wr_exc, wt_o, wt_seq, wt_turn, wt_next, wt_brk, wt_cont, wt_ret, wt_exc, Pl.R.bind_ok, Pl.R.o_ok, Pl.R.bind_exc, Pl.R.o_exc, List.getElem?_cons_zero, List.getElem?_cons_succ, List.set_cons_zero, List.set_cons_succ]
        exact ⟨B', .inr (by first | rfl | trivial), rfl⟩
      · simp only [hr, decide_false, ev, evs, evo, evT, evto, evF, evQ, evI, ex, wr_bind, wr_ok, wr_exc, wt_o, wt_seq, wt_turn, wt_next, wt_brk, wt_cont, wt_ret, wt_exc, Pl.R.bind_ok, Pl.R.o_ok, Pl.R.bind_exc, Pl.R.o_exc, List.getElem?_cons_zero, List.getElem?_cons_succ, List.set_cons_zero, List.set_cons_succ]
        exact ⟨B', .inl (by first | rfl | trivial), rfl⟩
    have hwu : w.Pairwise (· < ·) := s3.sublist hw
    have hwL : Lett w := fun x hx => hsome.lt x (s2.mem_iff.mp (hw.subset hx))
    have hwn : w.length ≤ 100 := by have := hw.length_le; omega
    have m0 := fun S => hsent 24 p c S hp (by omega) hcA
    have m1 := fun S => htaken 24 p c S hp hcA
    have m2 := fun S => hswollen 24 p w S hp (by omega) hwL hwu hwn
    have ok0 : PrOk (mp (p ++ [([c], false)])) := mp_ok (prOk_app hp (one_ok hcA) (by show p.length + 1 ≤ 1000; omega))
    have ok2 : PrOk (mp (swP p w)) := mp_ok (swP_ok hp (by omega) hwL hwu hwn)
    rw [wt_cons]
    simp only [ev, evs, evo, evT, evto, evF, evQ, evI, ex, wr_bind, wr_ok, wr_exc, wt_o, wt_seq, wt_turn, wt_next, wt_brk, wt_cont, wt_ret, wt_exc, Pl.R.bind_ok, Pl.R.o_ok, Pl.R.bind_exc, Pl.R.o_exc, List.getElem?_cons_zero, List.getElem?_cons_succ, List.set_cons_zero, List.set_cons_succ, one, m0, m1, m2, List.length_cons, List.length_nil]
    rw [if_pos (by decide)]
    simp only [ev, evs, evo, evT, evto, evF, evQ, evI, ex, wr_bind, wr_ok, wr_exc, wt_o, wt_seq, wt_turn, wt_next, wt_brk, wt_cont, wt_ret, wt_exc, Pl.R.bind_ok, Pl.R.o_ok, Pl.R.bind_exc, Pl.R.o_exc, List.getElem?_cons_zero, List.getElem?_cons_succ, List.set_cons_zero, List.set_cons_succ]
    generalize hM : D.fro [dP (mp (p ++ [([c], false)])), takD p c, dP (mp (swP p w))] = M
    have i0 : ∀ S, idxV M (.int 0) S = .ok (dP (mp (p ++ [([c], false)]))) S := fun S => by rw [← hM]; rfl
    have i1 : ∀ S, idxV M (.int 1) S = .ok (takD p c) S := fun S => by rw [← hM]; rfl
    have i2 : ∀ S, idxV M (.int 2) S = .ok (dP (mp (swP p w))) S := fun S => by rw [← hM]; rfl
    have hone : lies (wP [c]) p = !(isNn (takD p c)) := by
      rw [con_lies]
      cases h : seek [c] false p with
      | nil => rw [con_none h, takD_none h]; rfl
      | cons b r => rw [con_some h, takD_some h]; rfl
    rw [wt_cons]
    simp only [ev, evs, evo, evT, evto, evF, evQ, evI, ex, wr_bind, wr_ok, wr_exc, wt_o, wt_seq, wt_turn, wt_next, wt_brk, wt_cont, wt_ret, wt_exc, Pl.R.bind_ok, Pl.R.o_ok, Pl.R.bind_exc, Pl.R.o_exc, List.getElem?_cons_zero, List.getElem?_cons_succ, List.set_cons_zero, List.set_cons_succ, i1, c_isN, hlholds 28 p [c] _ (by omega) (by show 1 ≤ 100000; omega), hone, c_eqb]
    rw [show decide (isNn (takD p c) = !(isNn (takD p c))) = false from by cases isNn (takD p c) <;> rfl]
    simp only [ev, evs, evo, evT, evto, evF, evQ, evI, ex, wr_bind, wr_ok, wr_exc, wt_o, wt_seq, wt_turn, wt_next, wt_brk, wt_cont, wt_ret, wt_exc, Pl.R.bind_ok, Pl.R.o_ok, Pl.R.bind_exc, Pl.R.o_exc, List.getElem?_cons_zero, List.getElem?_cons_succ, List.set_cons_zero, List.set_cons_succ]
    rw [wt_nil]
    try dsimp only
    have isT : ∀ (q : List At) (S : Sto), isV (dP q) [.tuple] S = .ok (.bl true) S := fun _ _ => rfl
    have hseq : ∀ S, seqV M S = .ok ⟨[dP (mp (p ++ [([c], false)])), takD p c, dP (mp (swP p w))], [], false⟩ S := fun S => by rw [← hM]; rfl
    have hrow : ∀ d ∈ [dP (mp (p ++ [([c], false)])), takD p c, dP (mp (swP p w))], d = .non ∨ ∃ q, d = dP (mp q) ∧ PrOk (mp q) := fun d hd => by
      simp only [List.mem_cons, List.not_mem_nil, or_false] at hd
      rcases hd with rfl | rfl | rfl
      · exact .inr ⟨_, rfl, ok0⟩
      · rcases seek_split [c] false p with ⟨q1, _⟩ | ⟨t, b, r, q1, q2, _, _⟩
        · exact .inl (takD_none q1)
        · refine .inr ⟨_, takD_some q1, mp_ok (prOk_sub hp ?_)⟩
          rw [q2]
          unfold nxt
          split
          · exact List.sublist_append_right _ _
          · exact (List.sublist_cons_self _ _).trans (List.sublist_append_right _ _)
      · exact .inr ⟨_, rfl, ok2⟩
    rw [wt_cons]
    simp only [ev, evs, evo, evT, evto, evF, evQ, evI, ex, wr_bind, wr_ok, wr_exc, wt_o, wt_seq, wt_turn, wt_next, wt_brk, wt_cont, wt_ret, wt_exc, Pl.R.bind_ok, Pl.R.o_ok, Pl.R.bind_exc, Pl.R.o_exc, List.getElem?_cons_zero, List.getElem?_cons_succ, List.set_cons_zero, List.set_cons_succ, hseq]
    rw [if_pos (by show 3 ≤ 100000; omega)]
    rw [lc_pure (fun d => if isNn d then none else some (.bl true)) _ (fun d hd => ?_)]
    rotate_left
    · simp only [List.map_cons, List.map_nil, wipeD, bindTg, ev, evs, evo, evT, evto, evF, evQ, evI, ex, wr_bind, wr_ok, wr_exc, wt_o, wt_seq, wt_turn, wt_next, wt_brk, wt_cont, wt_ret, wt_exc, Pl.R.bind_ok, Pl.R.o_ok, Pl.R.bind_exc, Pl.R.o_exc, List.getElem?_cons_zero, List.getElem?_cons_succ, List.set_cons_zero, List.set_cons_succ, evto, c_notN]
      rcases hrow d hd with rfl | ⟨q, rfl, hq⟩
      · rfl
      · rw [show isNn (dP (mp q)) = false from rfl]
        simp only [ev, evs, evo, evT, evto, evF, evQ, evI, ex, wr_bind, wr_ok, wr_exc, wt_o, wt_seq, wt_turn, wt_next, wt_brk, wt_cont, wt_ret, wt_exc, Pl.R.bind_ok, Pl.R.o_ok, Pl.R.bind_exc, Pl.R.o_exc, List.getElem?_cons_zero, List.getElem?_cons_succ, List.set_cons_zero, List.set_cons_succ, Bool.not_false, isT, truV, hlook 28 (mp q) _ hq, mp_plain]
        rfl
    have hb3 : ∃ bs, boolsD (([dP (mp (p ++ [([c], false)])), takD p c, dP (mp (swP p w))]).filterMap fun d => if isNn d then none else some (D.bl true)) = some bs ∧ bs.all id = true := by
      have e0 : ∀ q, isNn (dP q) = false := fun _ => rfl
      cases ht : isNn (takD p c) with
      | true => exact ⟨[true, true], by simp [List.filterMap_cons, e0, ht, boolsD], rfl⟩
      | false => exact ⟨[true, true, true], by simp [List.filterMap_cons, e0, ht, boolsD], rfl⟩
    obtain ⟨bs, hb3, hb4⟩ := hb3
    simp only [ev, evs, evo, evT, evto, evF, evQ, evI, ex, wr_bind, wr_ok, wr_exc, wt_o, wt_seq, wt_turn, wt_next, wt_brk, wt_cont, wt_ret, wt_exc, Pl.R.bind_ok, Pl.R.o_ok, Pl.R.bind_exc, Pl.R.o_exc, List.getElem?_cons_zero, List.getElem?_cons_succ, List.set_cons_zero, List.set_cons_succ, Bool.false_eq_true, if_false, hb3, hb4, truV, Bool.not_true]
    rw [wt_nil]
    try dsimp only
    rw [wt_cons]
    simp only [ev, evs, evo, evT, evto, evF, evQ, evI, ex, wr_bind, wr_ok, wr_exc, wt_o, wt_seq, wt_turn, wt_next, wt_brk, wt_cont, wt_ret, wt_exc, Pl.R.bind_ok, Pl.R.o_ok, Pl.R.bind_exc, Pl.R.o_exc, List.getElem?_cons_zero, List.getElem?_cons_succ, List.set_cons_zero, List.set_cons_succ, List.length_cons, List.length_nil]
    rw [if_pos (by decide)]
    simp only [ev, evs, evo, evT, evto, evF, evQ, evI, ex, wr_bind, wr_ok, wr_exc, wt_o, wt_seq, wt_turn, wt_next, wt_brk, wt_cont, wt_ret, wt_exc, Pl.R.bind_ok, Pl.R.o_ok, Pl.R.bind_exc, Pl.R.o_exc, List.getElem?_cons_zero, List.getElem?_cons_succ, List.set_cons_zero, List.set_cons_succ, len_fro, List.length_map, c_gt]
    obtain ⟨n, hn4, hnx⟩ : ∃ n : Nat, n ≤ 4 ∧ ∀ S, idxV (.fro [.int 4, .int 2]) (.int (if decide ((3 : Int) < (ls.length : Int)) = true then 1 else 0)) S = .ok (.int (n : Int)) S := by
      by_cases h : (3 : Int) < (ls.length : Int)
      · exact ⟨2, by decide, fun S => by rw [if_pos (decide_eq_true h)]; rfl⟩
      · exact ⟨4, by decide, fun S => by rw [if_neg (by simpa using h)]; rfl⟩
    simp only [ev, evs, evo, evT, evto, evF, evQ, evI, ex, wr_bind, wr_ok, wr_exc, wt_o, wt_seq, wt_turn, wt_next, wt_brk, wt_cont, wt_ret, wt_exc, Pl.R.bind_ok, Pl.R.o_ok, Pl.R.bind_exc, Pl.R.o_exc, List.getElem?_cons_zero, List.getElem?_cons_succ, List.set_cons_zero, List.set_cons_succ, hnx, hwordsto 28 ls n _ hhi hn4]
    obtain ⟨wl, wk⟩ := wordsTo_ok hhi n
    have wl2 : (wordsTo ls n).length ≤ 5 * 6 ^ 4 := Nat.le_trans wl (Nat.mul_le_mul (by omega) (Nat.pow_le_pow_right (by decide) hn4))
    rw [wt_cons]
    simp only [ev, evs, evo, evT, evto, evF, evQ, evI, ex, wr_bind, wr_ok, wr_exc, wt_o, wt_seq, wt_turn, wt_next, wt_brk, wt_cont, wt_ret, wt_exc, Pl.R.bind_ok, Pl.R.o_ok, Pl.R.bind_exc, Pl.R.o_exc, List.getElem?_cons_zero, List.getElem?_cons_succ, List.set_cons_zero, List.set_cons_succ]
    rw [if_pos (by decide)]
    try simp only [ev, evs, evo, evT, evto, evF, evQ, evI, ex, wr_bind, wr_ok, wr_exc, wt_o, wt_seq, wt_turn, wt_next, wt_brk, wt_cont, wt_ret, wt_exc, Pl.R.bind_ok, Pl.R.o_ok, Pl.R.bind_exc, Pl.R.o_exc, List.getElem?_cons_zero, List.getElem?_cons_succ, List.set_cons_zero, List.set_cons_succ]
    rw [if_pos (by first | decide | (rw [List.length_map, List.length_range]; decide))]
    refine lc_all (fun d => ∃ u, d = D.str u ∧ u.length ≤ 8 ∧ ∀ c ∈ u, c ∈ ls) (fun S => ∃ B : Bg, S = B.on []) ⟨B4, rfl⟩ rfl (fun d S hd hJ => ?_) fun xs S hxl hxs hJ => ?_
    · obtain ⟨B, rfl⟩ := hJ
      simp only [List.map_cons, List.map_nil, wipeD, bindTg, ev, evs, evo, evT, evto, evF, evQ, evI, ex, wr_bind, wr_ok, wr_exc, wt_o, wt_seq, wt_turn, wt_next, wt_brk, wt_cont, wt_ret, wt_exc, Pl.R.bind_ok, Pl.R.o_ok, Pl.R.bind_exc, Pl.R.o_exc, List.getElem?_cons_zero, List.getElem?_cons_succ, List.set_cons_zero, List.set_cons_succ, evto]
      refine hword 26 B ls 8 _ _ _ hls.lo (by omega) (by decide) (by decide) fun u B5 hu hum => ?_
      exact ⟨⟨B5, rfl⟩, _, rfl, u, rfl, by omega, hum⟩
    obtain ⟨B5, rfl⟩ := hJ
    obtain ⟨ws, rfl, hws⟩ : ∃ ws : List (List Nat), xs = ws.map D.str ∧ ∀ u ∈ ws, u.length ≤ 8 ∧ ∀ c ∈ u, c ∈ ls := by
      clear hxl
      induction xs with
      | nil => exact ⟨[], rfl, fun _ h => nomatch h⟩
      | cons x xs ih =>
        obtain ⟨u, rfl, hu⟩ := hxs x List.mem_cons_self
        obtain ⟨ws, e, hw2⟩ := ih fun y hy => hxs y (List.mem_cons_of_mem _ hy)
        exact ⟨u :: ws, by rw [e]; rfl, fun v hv => by
          rcases List.mem_cons.mp hv with rfl | hv
          · exact hu
          · exact hw2 v hv⟩
    have hwsl : ws.length = 25 := by simpa using hxl
    try simp only [ev, evs, evo, evT, evto, evF, evQ, evI, ex, wr_bind, wr_ok, wr_exc, wt_o, wt_seq, wt_turn, wt_next, wt_brk, wt_cont, wt_ret, wt_exc, Pl.R.bind_ok, Pl.R.o_ok, Pl.R.bind_exc, Pl.R.o_exc, List.getElem?_cons_zero, List.getElem?_cons_succ, List.set_cons_zero, List.set_cons_succ]
    try dsimp only
    rw [add_fro (by simp only [List.length_map]; omega)]
    simp only [ev, evs, evo, evT, evto, evF, evQ, evI, ex, wr_bind, wr_ok, wr_exc, wt_o, wt_seq, wt_turn, wt_next, wt_brk, wt_cont, wt_ret, wt_exc, Pl.R.bind_ok, Pl.R.o_ok, Pl.R.bind_exc, Pl.R.o_exc, List.getElem?_cons_zero, List.getElem?_cons_succ, List.set_cons_zero, List.set_cons_succ, seqV]
    rw [← List.map_append]
    have hW : ∀ u ∈ wordsTo ls n ++ ws, u.length ≤ 8 ∧ ∀ c ∈ u, c ∈ ls := fun u hu => by
      rcases List.mem_append.mp hu with hu | hu
      · exact ⟨by have := (wk u hu).1; omega, (wk u hu).2⟩
      · exact hws u hu
    generalize wordsTo ls n ++ ws = W at hW
    refine for_map (e := D.str) (fun i ρ S' => ∃ (B : Bg) (x8 x9 x10 x11 x12 x13 : Option D), ρ = [some (.scr (ns.map D.int)), some (.ref 1), some (.fro (ls.map one)), some (.fro (sm.map one)), some (dP p), some (.str [c]), some (.str w), some M, x8, x9, x10, x11, x12, x13] ∧ S' = B.on []) ⟨B5, _, _, _, _, _, _, rfl, rfl⟩ (fun i u ρ S' hu hI => ?_) (fun ρ S' hI => ?_)
    · obtain ⟨B, x8, x9, x10, x11, x12, x13, rfl, rfl⟩ := hI
      refine ⟨_, rfl, ?_⟩
      simp only [List.set_cons_succ, List.set_cons_zero]
      obtain ⟨hul, hum⟩ := hW u (List.mem_of_getElem? hu)
      have huL : Lett u := fun x hx => hls.lt x (hum x hx)
      have hulim : u.length ≤ lim := by show u.length ≤ 100000; omega
      have H := fun (q : List At) (v : List Nat) (S : Sto) (h1 : PrOk q) (h2 : v.length ≤ 1000) => hlholds 28 q v S (by have := h1.len; omega) (by omega)
      have after : ∀ E : Ed, E.nx = (fun ρ S' => ∃ (B : Bg) (x8 x9 x10 x11 x12 x13 : Option D), ρ = [some (.scr (ns.map D.int)), some (.ref 1), some (.fro (ls.map one)), some (.fro (sm.map one)), some (dP p), some (.str [c]), some (.str w), some M, x8, x9, x10, x11, x12, x13] ∧ S' = B.on []) → Wt (exs (run TT L.G 29) L.G [.if_ (.or_ (.cmp .ne (.calls 0 false 139 [(.idx (.var 7) (.cst (.int 0))), (.var 9)]) (.var 10)) (.cmp .ne (.calls 0 false 138 [(.idx (.var 7) (.cst (.int 0))), (.var 9)]) (.var 10))) [.ret (.cst (.bl false))] [], .asg 10 (.calls 0 false 139 [(.var 4), (.bin .add (.var 5) (.var 9))]), .if_ (.and_ (.cmp .notN (.idx (.var 7) (.cst (.int 1))) (.cst .non)) (.cmp .ne (.calls 0 false 139 [(.idx (.var 7) (.cst (.int 1))), (.var 9)]) (.var 10))) [.ret (.cst (.bl false))] [], .if_ (.cmp .ne (.calls 0 false 139 [(.idx (.var 7) (.cst (.int 2))), (.var 9)]) (.calls 0 false 152 [(.var 4), (.var 9), (.var 6)])) [.ret (.cst (.bl false))] []] [some (.scr (ns.map D.int)), some (.ref 1), some (.fro (ls.map one)), some (.fro (sm.map one)), some (dP p), some (.str [c]), some (.str w), some M, x8, some (.str u), some (.bl (lies (wP u) (p ++ [([c], false)]))), x11, x12, x13] (B.on [])) E := fun E he => by
        rw [wt_cons]
        simp only [ev, evs, evo, evT, evto, evF, evQ, evI, ex, wr_bind, wr_ok, wr_exc, wt_o, wt_seq, wt_turn, wt_next, wt_brk, wt_cont, wt_ret, wt_exc, Pl.R.bind_ok, Pl.R.o_ok, Pl.R.bind_exc, Pl.R.o_exc, List.getElem?_cons_zero, List.getElem?_cons_succ, List.set_cons_zero, List.set_cons_succ, i0, H _ u _ ok0 (by omega), hholds 24 _ u _ ok0 (by omega) huL, lies_mp, c_neb, decide_true, Bool.not_true]
        rw [wt_nil]
        try dsimp only
        rw [wt_cons]
        simp only [ev, evs, evo, evT, evto, evF, evQ, evI, ex, wr_bind, wr_ok, wr_exc, wt_o, wt_seq, wt_turn, wt_next, wt_brk, wt_cont, wt_ret, wt_exc, Pl.R.bind_ok, Pl.R.o_ok, Pl.R.bind_exc, Pl.R.o_exc, List.getElem?_cons_zero, List.getElem?_cons_succ, List.set_cons_zero, List.set_cons_succ]
        rw [add_str (by show 1 + u.length ≤ 100000; omega)]
        simp only [ev, evs, evo, evT, evto, evF, evQ, evI, ex, wr_bind, wr_ok, wr_exc, wt_o, wt_seq, wt_turn, wt_next, wt_brk, wt_cont, wt_ret, wt_exc, Pl.R.bind_ok, Pl.R.o_ok, Pl.R.bind_exc, Pl.R.o_exc, List.getElem?_cons_zero, List.getElem?_cons_succ, List.set_cons_zero, List.set_cons_succ]
        have hcu := H p (c :: u) (B.on []) hp (by rw [List.length_cons]; omega)
        rw [show ([c] ++ u) = c :: u from rfl, hcu]
        simp only [ev, evs, evo, evT, evto, evF, evQ, evI, ex, wr_bind, wr_ok, wr_exc, wt_o, wt_seq, wt_turn, wt_next, wt_brk, wt_cont, wt_ret, wt_exc, Pl.R.bind_ok, Pl.R.o_ok, Pl.R.bind_exc, Pl.R.o_exc, List.getElem?_cons_zero, List.getElem?_cons_succ, List.set_cons_zero, List.set_cons_succ]
        rw [wt_cons]
        simp only [ev, evs, evo, evT, evto, evF, evQ, evI, ex, wr_bind, wr_ok, wr_exc, wt_o, wt_seq, wt_turn, wt_next, wt_brk, wt_cont, wt_ret, wt_exc, Pl.R.bind_ok, Pl.R.o_ok, Pl.R.bind_exc, Pl.R.o_exc, List.getElem?_cons_zero, List.getElem?_cons_succ, List.set_cons_zero, List.set_cons_succ, i1, c_notN]
        have last : ∀ E : Ed, E.nx = (fun ρ S' => ∃ (B : Bg) (x8 x9 x10 x11 x12 x13 : Option D), ρ = [some (.scr (ns.map D.int)), some (.ref 1), some (.fro (ls.map one)), some (.fro (sm.map one)), some (dP p), some (.str [c]), some (.str w), some M, x8, x9, x10, x11, x12, x13] ∧ S' = B.on []) → Wt (exs (run TT L.G 29) L.G [.if_ (.cmp .ne (.calls 0 false 139 [(.idx (.var 7) (.cst (.int 2))), (.var 9)]) (.calls 0 false 152 [(.var 4), (.var 9), (.var 6)])) [.ret (.cst (.bl false))] []] [some (.scr (ns.map D.int)), some (.ref 1), some (.fro (ls.map one)), some (.fro (sm.map one)), some (dP p), some (.str [c]), some (.str w), some M, x8, some (.str u), some (.bl (lies (wP (c :: u)) p)), x11, x12, x13] (B.on [])) E := fun E he => by
          have ht : tailB u p w = lies (wP u) (mp (swP p w)) := by
            rw [lies_mp]
            unfold swP
            split
            · rename_i h
              rw [h, tailB_nil]
            · exact lies_swell.symm
          rw [wt_cons]
          simp only [ev, evs, evo, evT, evto, evF, evQ, evI, ex, wr_bind, wr_ok, wr_exc, wt_o, wt_seq, wt_turn, wt_next, wt_brk, wt_cont, wt_ret, wt_exc, Pl.R.bind_ok, Pl.R.o_ok, Pl.R.bind_exc, Pl.R.o_exc, List.getElem?_cons_zero, List.getElem?_cons_succ, List.set_cons_zero, List.set_cons_succ, i2, H _ u _ ok2 (by omega), htailin 27 p u w _ (by omega) (by omega), ht, c_neb, decide_true, Bool.not_true]
          rw [wt_nil]
          try dsimp only
          rw [wt_nil, he]
          exact ⟨B, _, _, _, _, _, _, rfl, rfl⟩
        rcases seek_split [c] false p with ⟨q1, _⟩ | ⟨t, b, r, q1, q2, _, _⟩
        · rw [takD_none q1]
          simp only [isNn, Bool.not_true, ev, evs, evo, evT, evto, evF, evQ, evI, ex, wr_bind, wr_ok, wr_exc, wt_o, wt_seq, wt_turn, wt_next, wt_brk, wt_cont, wt_ret, wt_exc, Pl.R.bind_ok, Pl.R.o_ok, Pl.R.bind_exc, Pl.R.o_exc, List.getElem?_cons_zero, List.getElem?_cons_succ, List.set_cons_zero, List.set_cons_succ]
          rw [wt_nil]
          try dsimp only
          exact last _ he
        · have okt : PrOk (mp (nxt b r)) := by
            rcases hrow (takD p c) (by simp) with e | ⟨q, e, hq⟩
            · rw [takD_some q1] at e; cases e
            · rw [takD_some q1] at e
              have : (mp (nxt b r)).map dAt = (mp q).map dAt := by
                injection e
              refine mp_ok (prOk_sub hp ?_)
              rw [q2]
              unfold nxt
              split
              · exact List.sublist_append_right _ _
              · exact (List.sublist_cons_self _ _).trans (List.sublist_append_right _ _)
          have e5 : lies (wP u) (mp (nxt b r)) = lies (wP (c :: u)) p := by rw [lies_mp, con_lies, con_lies, con_some q1]
          rw [takD_some q1] at i1 ⊢
          rw [show isNn (dP (mp (nxt b r))) = false from rfl]
          simp only [Bool.not_false, ev, evs, evo, evT, evto, evF, evQ, evI, ex, wr_bind, wr_ok, wr_exc, wt_o, wt_seq, wt_turn, wt_next, wt_brk, wt_cont, wt_ret, wt_exc, Pl.R.bind_ok, Pl.R.o_ok, Pl.R.bind_exc, Pl.R.o_exc, List.getElem?_cons_zero, List.getElem?_cons_succ, List.set_cons_zero, List.set_cons_succ, i1, H _ u _ okt (by omega), e5, c_neb, decide_true, Bool.not_true]
          rw [wt_nil]
          try dsimp only
          exact last _ he
      rw [wt_cons]
      simp only [ev, evs, evo, evT, evto, evF, evQ, evI, ex, wr_bind, wr_ok, wr_exc, wt_o, wt_seq, wt_turn, wt_next, wt_brk, wt_cont, wt_ret, wt_exc, Pl.R.bind_ok, Pl.R.o_ok, Pl.R.bind_exc, Pl.R.o_exc, List.getElem?_cons_zero, List.getElem?_cons_succ, List.set_cons_zero, List.set_cons_succ, H p u _ hp (by omega)]
      rw [wt_cons]
      simp only [ev, evs, evo, evT, evto, evF, evQ, evI, ex, wr_bind, wr_ok, wr_exc, wt_o, wt_seq, wt_turn, wt_next, wt_brk, wt_cont, wt_ret, wt_exc, Pl.R.bind_ok, Pl.R.o_ok, Pl.R.bind_exc, Pl.R.o_exc, List.getElem?_cons_zero, List.getElem?_cons_succ, List.set_cons_zero, List.set_cons_succ, sli_str hulim, cut_last, c_eqs]
      by_cases hl : u.getLast? = some c
      · rw [show decide (u.drop (u.length - 1) = [c]) = true from decide_eq_true (last_iff.mpr hl)]
        simp only [ev, evs, evo, evT, evto, evF, evQ, evI, ex, wr_bind, wr_ok, wr_exc, wt_o, wt_seq, wt_turn, wt_next, wt_brk, wt_cont, wt_ret, wt_exc, Pl.R.bind_ok, Pl.R.o_ok, Pl.R.bind_exc, Pl.R.o_exc, List.getElem?_cons_zero, List.getElem?_cons_succ, List.set_cons_zero, List.set_cons_succ]
        rw [wt_cons]
        have hd := H p u.dropLast (B.on []) hp (by rw [List.length_dropLast]; omega)
        have e6 : lies (wP u) (p ++ [([c], false)]) = (lies (wP u) p || lies (wP u.dropLast) p) := by rw [lies_sent, decide_eq_true hl, Bool.true_and]
        rw [e6] at after
        simp only [ev, evs, evo, evT, evto, evF, evQ, evI, ex, wr_bind, wr_ok, wr_exc, wt_o, wt_seq, wt_turn, wt_next, wt_brk, wt_cont, wt_ret, wt_exc, Pl.R.bind_ok, Pl.R.o_ok, Pl.R.bind_exc, Pl.R.o_exc, List.getElem?_cons_zero, List.getElem?_cons_succ, List.set_cons_zero, List.set_cons_succ, truV]
        cases h1 : lies (wP u) p with
        | true =>
          rw [h1, Bool.true_or] at after
          simp only [ev, evs, evo, evT, evto, evF, evQ, evI, ex, wr_bind, wr_ok, wr_exc, wt_o, wt_seq, wt_turn, wt_next, wt_brk, wt_cont, wt_ret, wt_exc, Pl.R.bind_ok, Pl.R.o_ok, Pl.R.bind_exc, Pl.R.o_exc, List.getElem?_cons_zero, List.getElem?_cons_succ, List.set_cons_zero, List.set_cons_succ]
          rw [wt_nil]
          try dsimp only
          exact after _ rfl
        | false =>
          rw [h1, Bool.false_or] at after
          simp only [ev, evs, evo, evT, evto, evF, evQ, evI, ex, wr_bind, wr_ok, wr_exc, wt_o, wt_seq, wt_turn, wt_next, wt_brk, wt_cont, wt_ret, wt_exc, Pl.R.bind_ok, Pl.R.o_ok, Pl.R.bind_exc, Pl.R.o_exc, List.getElem?_cons_zero, List.getElem?_cons_succ, List.set_cons_zero, List.set_cons_succ, sli_str hulim, cut_but, hd]
          rw [wt_nil]
          try dsimp only
          exact after _ rfl
      · rw [show decide (u.drop (u.length - 1) = [c]) = false from decide_eq_false (fun z => hl (last_iff.mp z))]
        simp only [ev, evs, evo, evT, evto, evF, evQ, evI, ex, wr_bind, wr_ok, wr_exc, wt_o, wt_seq, wt_turn, wt_next, wt_brk, wt_cont, wt_ret, wt_exc, Pl.R.bind_ok, Pl.R.o_ok, Pl.R.bind_exc, Pl.R.o_exc, List.getElem?_cons_zero, List.getElem?_cons_succ, List.set_cons_zero, List.set_cons_succ]
        rw [wt_nil]
        try dsimp only
        have e6 : lies (wP u) (p ++ [([c], false)]) = lies (wP u) p := by rw [lies_sent, decide_eq_false hl, Bool.false_and, Bool.or_false]
        rw [e6] at after
        exact after _ rfl
    · obtain ⟨B, x8, x9, x10, x11, x12, x13, rfl, rfl⟩ := hI
      try dsimp only
      rw [wt_cons]
      have p0 : PrOk [] := ⟨by decide, fun _ h => nomatch h⟩
      have e1 := hswollen 24 [] [] (B.on []) p0 (by decide) (fun _ h => nomatch h) List.Pairwise.nil (by decide)
      have e2 := hsame 24 (dP []) (B.on []) (dat_P (by decide))
      rw [show mp (swP [] []) = [] from rfl] at e1
      simp only [dP, List.map_nil] at e1 e2
      simp only [ev, evs, evo, evT, evto, evF, evQ, evI, ex, wr_bind, wr_ok, wr_exc, wt_o, wt_seq, wt_turn, wt_next, wt_brk, wt_cont, wt_ret, wt_exc, Pl.R.bind_ok, Pl.R.o_ok, Pl.R.bind_exc, Pl.R.o_exc, List.getElem?_cons_zero, List.getElem?_cons_succ, List.set_cons_zero, List.set_cons_succ, List.length_nil, Nat.zero_le, if_true, e1, e2]
  have main : Wr (run TT L.G (29 + 1) lawF [.scr (ns.map D.int)] []) (fun d _ => d = .bl true) no2 := by
    rw [wr_run (fn := f_law) rfl rfl]
    show Wt (exs _ _ f_law.body [some (.scr (ns.map D.int)), none, none, none, none, none, none, none, none, none, none, none, none, none] []) _
    unfold f_law
    rw [wt_cons]
    simp only [ev, evs, evo, evT, evto, evF, evQ, evI, ex, wr_bind, wr_ok, wr_exc, wt_o, wt_seq, wt_turn, wt_next, wt_brk, wt_cont, wt_ret, wt_exc, Pl.R.bind_ok, Pl.R.o_ok, Pl.R.bind_exc, Pl.R.o_exc, List.getElem?_cons_zero, List.getElem?_cons_succ, List.set_cons_zero, List.set_cons_succ]
    refine hbag 28 ns _ _ fun B => ?_
    rw [wt_cons]
    simp only [ev, evs, evo, evT, evto, evF, evQ, evI, ex, wr_bind, wr_ok, wr_exc, wt_o, wt_seq, wt_turn, wt_next, wt_brk, wt_cont, wt_ret, wt_exc, Pl.R.bind_ok, Pl.R.o_ok, Pl.R.bind_exc, Pl.R.o_exc, List.getElem?_cons_zero, List.getElem?_cons_succ, List.set_cons_zero, List.set_cons_succ]
    refine hpull 28 B _ _ _ _ (by decide) (by decide) fun m B1 m0 m1 => ?_
    simp only [ev, evs, evo, evT, evto, evF, evQ, evI, ex, wr_bind, wr_ok, wr_exc, wt_o, wt_seq, wt_turn, wt_next, wt_brk, wt_cont, wt_ret, wt_exc, Pl.R.bind_ok, Pl.R.o_ok, Pl.R.bind_exc, Pl.R.o_exc, List.getElem?_cons_zero, List.getElem?_cons_succ, List.set_cons_zero, List.set_cons_succ, c_eqi]
    by_cases hm : m = 0
    · simp only [hm, decide_true, ev, evs, evo, evT, evto, evF, evQ, evI, ex, wr_bind, wr_ok, wr_exc, wt_o, wt_seq, wt_turn, wt_next, wt_brk, wt_cont, wt_ret, wt_exc, Pl.R.bind_ok, Pl.R.o_ok, Pl.R.bind_exc, Pl.R.o_exc, List.getElem?_cons_zero, List.getElem?_cons_succ, List.set_cons_zero, List.set_cons_succ]
      refine hletters 26 B1 _ _ _ fun f b B2 f0 f1 hb => ?_
      try simp only [ev, evs, evo, evT, evto, evF, evQ, evI, ex, wr_bind, wr_ok, wr_exc, wt_o, wt_seq, wt_turn, wt_next, wt_brk, wt_cont, wt_ret, wt_exc, Pl.R.bind_ok, Pl.R.o_ok, Pl.R.bind_exc, Pl.R.o_exc, List.getElem?_cons_zero, List.getElem?_cons_succ, List.set_cons_zero, List.set_cons_succ]
      exact rest B2 _ (lsOk hb (by decide) (by decide)) (by simp)
    · simp only [hm, decide_false, ev, evs, evo, evT, evto, evF, evQ, evI, ex, wr_bind, wr_ok, wr_exc, wt_o, wt_seq, wt_turn, wt_next, wt_brk, wt_cont, wt_ret, wt_exc, Pl.R.bind_ok, Pl.R.o_ok, Pl.R.bind_exc, Pl.R.o_exc, List.getElem?_cons_zero, List.getElem?_cons_succ, List.set_cons_zero, List.set_cons_succ]
      refine hsix 27 B1 _ _ _ fun f b B2 hb => ?_
      try simp only [ev, evs, evo, evT, evto, evF, evQ, evI, ex, wr_bind, wr_ok, wr_exc, wt_o, wt_seq, wt_turn, wt_next, wt_brk, wt_cont, wt_ret, wt_exc, Pl.R.bind_ok, Pl.R.o_ok, Pl.R.bind_exc, Pl.R.o_exc, List.getElem?_cons_zero, List.getElem?_cons_succ, List.set_cons_zero, List.set_cons_succ]
      exact rest B2 _ (lsOk hb (by decide) (by decide)) (by simp)
  obtain ⟨d, S, e, rfl⟩ := main.ok
  exact ⟨S, e⟩
end
end Lk33
open PySem PySem.W PySem.Calls PyProof.Rows
theorem PySem.Challenge.cw_leakpost_k33_products_sent_taken_swollen_holds : PySem.Challenge.rw_leakpost_k33_products_sent_taken_swollen.Holds := by
  w_on; o_law
  refine HandSHeadRun.head_any (r := OpenLaw.row PySem.Challenge.rw_leakpost_k33_products_sent_taken_swollen) (q := view (OpenLaw.row PySem.Challenge.rw_leakpost_k33_products_sent_taken_swollen).prog [Lk33.lawAt]) (H := Lk33.hk) (ob := Lk33.ob) (M := 9000) (loose := Lk33.loose) (d := HandSHeadRun.topDef (OpenLaw.row PySem.Challenge.rw_leakpost_k33_products_sent_taken_swollen).prog Lk33.lawAt) (kwd := []) Lk33.ob_eq
    (by kernel_rfl) (fun s => by kernel_rfl) Lk33.head (by kernel_rfl) (by kernel_rfl) (by kernel_rfl) (by rfl) (by first | assumption | decide +kernel) (by decide +kernel) ⟨rfl, rfl, rfl, rfl, rfl, by decide +kernel⟩ ?hw ?hc
  case hw => w_witness2
  case hc =>
    refine L2.walk_ofE (l := PySem.Challenge.rw_leakpost_k33_products_sent_taken_swollen) (n := 63) (k := 60) (x := "_law_script") (CX := L2.CX0) rfl (by decide) (by kernel_rfl) ⟨rfl, by decide, by decide⟩ ?F (fun _ _ _ _ z => z)
    intro w mg fa h Y G hmg0
    obtain ⟨K, KX, c⟩ := Y
    have hmg : mg (Lk33.L.nms Lk33.lawF) = some (.ref fa) := by
      have e : (HandSHeadRun.topDef (OpenLaw.row PySem.Challenge.rw_leakpost_k33_products_sent_taken_swollen).prog Lk33.lawAt).name = Lk33.L.nms Lk33.lawF := by kernel_rfl
      rw [← e]
      exact hmg0
    obtain ⟨fd, sp, h1, h2, h3⟩ := Pl.law_fn (P := (PySem.Challenge.rw_leakpost_k33_products_sent_taken_swollen).prog) (w := w) (L := Lk33.L) (f := Lk33.lawF) (x := "_law_script") Lk33.ok KX G c rfl rfl rfl rfl 30 Lk33.lw hmg
    exact ⟨K, fd, sp, KX, h1, h2, h3⟩
