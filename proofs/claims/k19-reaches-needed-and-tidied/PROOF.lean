import PyProof.Rows.All
import HandS.ForMost
import HandS.IsInst
import HandS.Style
import HandS.TupAny
import HandS.TupMul
import HandS.Conv
import HandS.Flow
import HandS.Star
import HandS.Deep
import HandS.Walk
import HandS.Steps
import HandS.WordsExc
import HandS.Zip
import HandS.Rev
import HandS.RevRange
import HandS.Wide
import PyProof.StrOps2
import HandS.Iter
import KE.GoesMore
import KE.GoesEnum
import KE.GoesZip
import PyProof.P3Eq
import PyProof.NeData
import PyProof.SliceList
import KE.KRevSl
import HandS.Set
import HandS.SetFor
import HandS.SetKeys
import KE.SortData
import PyProof.CollectStr
import HandS.RaiseMore
import HandS.Replace
import HandS.Text
import HandS.Strs
import HandS.TryOnly
import KE.KUnpackStar
import KE.KExcHand
import KE.KTryMore
import KE.KExcIs
import HandS.ExcInit
import HandS.ExcField
import HandS.Defaults
import PySem.Challenge.RW_deepedge_k19_reaches_needed_and_tidied
set_option Elab.async false
set_option linter.all false
set_option autoImplicit false
set_option maxRecDepth 100000
/-! PV: values without a heap; how they lie in one. -/
namespace PV
open PySem PySem.Spec PyProof.Rows L2

abbrev D := PyData
abbrev Frg := PySem.W.Frag
def kD : Key → D
  | .inl i => .int i
  | .inr x => .str x

/-- a list that is read: tracked, known, or of the written part in its plain form -/
def Lq (K : Frg) (H : Hp) (a : Addr) (vs : List V) : Prop :=
  Rd H a (.lst vs) ∨ ∃ (its : List Value) (n : Nat), K.lookup a = some { cls := .type "list", data := .seq its.toArray n } ∧ its.length ≤ sizeLine ∧ Vals vs its
theorem Lq.of {K : Frg} {H : Hp} {a : Addr} {vs : List V} (h : H a = some (.lst vs)) : Lq K H a vs := .inl (.inl h)
theorem Lq.sq {K : Frg} {H : Hp} {a : Addr} {vs : List V} (h : Lq K H a vs) : SqL K H a vs := by
  cases h with
  | inl h => exact .inl h
  | inr h =>
    obtain ⟨its, n, h1, h2, h3⟩ := h
    exact .inr ⟨_, its.toArray, n, h1, rfl, rfl, rfl, by simpa using h2, by simpa using h3⟩
theorem Lq.mono {K : Frg} {G G' : Hp} {a : Addr} {xs : List V} (e : Same G G') (h : Lq K G a xs) : Lq K G' a xs := by
  cases h with
  | inl h =>
    cases h with
    | inl h => exact .inl (.inl (e _ _ h))
    | inr h => obtain ⟨o, h⟩ := h; exact .inl (.inr ⟨o, e _ _ h⟩)
  | inr h => exact .inr h
theorem Lq.at {X : Cx} {pins : List (Addr × Obj)} {σ : L2.St} {H : Hp} {s : Shared} {a : Addr} {xs : List V} (I : Inv X pins σ H s) (h : Lq X.K H a xs) :
    ∃ (its : List Value) (n : Nat), Vals xs its ∧ xs.length = its.length ∧ xs.length ≤ sizeLine ∧ s.heap.get? a = some { cls := .type "list", data := .seq its.toArray n } := by
  cases h with
  | inl h =>
    obtain ⟨z, its, n, r, e⟩ := h.ok I.hok
    exact ⟨its, n, r, r.length, z, e⟩
  | inr h =>
    obtain ⟨its, n, h1, h2, h3⟩ := h
    exact ⟨its, n, h3, h3.length, by rw [h3.length]; exact h2, I.kIn _ _ h1⟩

/-! ### data in the abstract heap -/
mutual
inductive Rp (K : Frg) (H : Hp) : V → D → Prop
  | non : Rp K H .non .none
  | bl (b : Bool) : Rp K H (.bl b) (.bool b)
  | int (i : Int) : Rp K H (.int i) (.int i)
  | str (x : Str) : Rp K H (.str x) (.str x)
  | lst {a : Addr} {vs : List V} {ds : List D} : Lq K H a vs → RpAll K H vs ds → Rp K H (.ref a) (.list ds)
  | tup {a : Addr} {vs : List V} {ds : List D} : SqT K H a vs → RpAll K H vs ds → Rp K H (.ref a) (.tuple ds)
  | dct {a : Addr} {kvs : List (Key × V)} {ds : List (D × D)} : H a = some (.dK kvs) → RpKV K H kvs ds → Rp K H (.ref a) (.dict ds)
inductive RpAll (K : Frg) (H : Hp) : List V → List D → Prop
  | nil : RpAll K H [] []
  | cons {v : V} {vs : List V} {d : D} {ds : List D} : Rp K H v d → RpAll K H vs ds → RpAll K H (v :: vs) (d :: ds)
inductive RpKV (K : Frg) (H : Hp) : List (Key × V) → List (D × D) → Prop
  | nil : RpKV K H [] []
  | cons {k : Key} {v : V} {kvs : List (Key × V)} {d : D} {ds : List (D × D)} : Rp K H v d → RpKV K H kvs ds → RpKV K H ((k, v) :: kvs) ((kD k, d) :: ds)
end

theorem seqT_mono {K : Frg} {G G' : Hp} {a : Addr} {xs : List V} (e : Same G G') (h : SqT K G a xs) : SqT K G' a xs := by
  cases h with
  | inl h =>
    cases h with
    | inl h => exact .inl (.inl (e _ _ h))
    | inr h => obtain ⟨o, h⟩ := h; exact .inl (.inr ⟨o, e _ _ h⟩)
  | inr h => exact .inr h

mutual
theorem Rp.mono {K : Frg} {G G' : Hp} (e : Same G G') : ∀ {v : V} {d : D}, Rp K G v d → Rp K G' v d
  | _, _, .non => .non
  | _, _, .bl b => .bl b
  | _, _, .int i => .int i
  | _, _, .str x => .str x
  | _, _, .lst h r => .lst (h.mono e) (RpAll.mono e r)
  | _, _, .tup h r => .tup (seqT_mono e h) (RpAll.mono e r)
  | _, _, .dct h r => .dct (e _ _ h) (RpKV.mono e r)
theorem RpAll.mono {K : Frg} {G G' : Hp} (e : Same G G') : ∀ {vs : List V} {ds : List D}, RpAll K G vs ds → RpAll K G' vs ds
  | _, _, .nil => .nil
  | _, _, .cons r t => .cons (Rp.mono e r) (RpAll.mono e t)
theorem RpKV.mono {K : Frg} {G G' : Hp} (e : Same G G') : ∀ {vs : List (Key × V)} {ds : List (D × D)}, RpKV K G vs ds → RpKV K G' vs ds
  | _, _, .nil => .nil
  | _, _, .cons r t => .cons (Rp.mono e r) (RpKV.mono e t)
end

namespace RpAll
variable {K : Frg} {H : Hp}
theorem length : ∀ {vs : List V} {ds : List D}, RpAll K H vs ds → vs.length = ds.length
  | _, _, .nil => rfl
  | _, _, .cons _ t => congrArg Nat.succ (length t)
theorem get : ∀ {vs : List V} {ds : List D} {i : Nat} {v : V}, RpAll K H vs ds → vs[i]? = some v → ∃ d, ds[i]? = some d ∧ Rp K H v d
  | _, _, _, _, .nil, e => by simp at e
  | _, _, 0, _, .cons r _, e => by simp at e; subst e; exact ⟨_, rfl, r⟩
  | _, _, i + 1, v, .cons _ t, e => by
    obtain ⟨d, h1, h2⟩ := get (i := i) (v := v) t (by simpa using e)
    exact ⟨d, by simpa using h1, h2⟩
theorem get' : ∀ {vs : List V} {ds : List D} {i : Nat} {d : D}, RpAll K H vs ds → ds[i]? = some d → ∃ v, vs[i]? = some v ∧ Rp K H v d
  | _, _, _, _, .nil, e => by simp at e
  | _, _, 0, _, .cons r _, e => by simp at e; subst e; exact ⟨_, rfl, r⟩
  | _, _, i + 1, v, .cons _ t, e => by
    obtain ⟨d, h1, h2⟩ := get' (i := i) (d := v) t (by simpa using e)
    exact ⟨d, by simpa using h1, h2⟩
theorem append : ∀ {vs ws : List V} {ds es : List D}, RpAll K H vs ds → RpAll K H ws es → RpAll K H (vs ++ ws) (ds ++ es)
  | _, _, _, _, .nil, s => s
  | _, _, _, _, .cons r t, s => .cons r (append t s)
theorem take (n : Nat) : ∀ {vs : List V} {ds : List D}, RpAll K H vs ds → RpAll K H (vs.take n) (ds.take n) := by
  induction n with
  | zero => intro vs ds h; simp only [List.take_zero]; exact .nil
  | succ n ih =>
    intro vs ds h
    cases h with
    | nil => exact .nil
    | cons r t => exact .cons r (ih t)
theorem drop (n : Nat) : ∀ {vs : List V} {ds : List D}, RpAll K H vs ds → RpAll K H (vs.drop n) (ds.drop n) := by
  induction n with
  | zero => intro vs ds h; exact h
  | succ n ih =>
    intro vs ds h
    cases h with
    | nil => exact .nil
    | cons r t => exact ih t
theorem set {v : V} {d : D} (r : Rp K H v d) (n : Nat) : ∀ {vs : List V} {ds : List D}, RpAll K H vs ds → RpAll K H (vs.set n v) (ds.set n d) := by
  induction n with
  | zero =>
    intro vs ds h
    cases h with
    | nil => exact .nil
    | cons _ t => exact .cons r t
  | succ n ih =>
    intro vs ds h
    cases h with
    | nil => exact .nil
    | cons q t => exact .cons q (ih t)
theorem snoc {vs : List V} {ds : List D} {v : V} {d : D} (h : RpAll K H vs ds) (r : Rp K H v d) : RpAll K H (vs ++ [v]) (ds ++ [d]) := h.append (.cons r .nil)
theorem reverse : ∀ {vs : List V} {ds : List D}, RpAll K H vs ds → RpAll K H vs.reverse ds.reverse
  | _, _, .nil => .nil
  | _, _, .cons r t => by rw [List.reverse_cons, List.reverse_cons]; exact t.reverse.snoc r
theorem rep {vs : List V} {ds : List D} (h : RpAll K H vs ds) : ∀ n : Nat, RpAll K H (List.replicate n vs).flatten (List.replicate n ds).flatten
  | 0 => .nil
  | n + 1 => by
    rw [List.replicate_succ, List.replicate_succ, List.flatten_cons, List.flatten_cons]
    exact h.append (h.rep n)
theorem intsR : ∀ ns : List Int, RpAll K H (ns.map V.int) (ns.map PyData.int)
  | [] => .nil
  | n :: ns => .cons (.int n) (intsR ns)
theorem eraseIdx (n : Nat) : ∀ {vs : List V} {ds : List D}, RpAll K H vs ds → RpAll K H (vs.eraseIdx n) (ds.eraseIdx n) := by
  induction n with
  | zero =>
    intro vs ds h
    cases h with
    | nil => exact .nil
    | cons _ t => exact t
  | succ n ih =>
    intro vs ds h
    cases h with
    | nil => exact .nil
    | cons q t => exact .cons q (ih t)
end RpAll

/-! ### what each kind of data is, as a value -/
section
variable {K : Frg} {H : Hp} {v : V} {d : D}
theorem Rp.of_int {i : Int} (r : Rp K H v (.int i)) : v = .int i := by cases r; rfl
theorem Rp.of_bool {i : Bool} (r : Rp K H v (.bool i)) : v = .bl i := by cases r; rfl
theorem Rp.of_str {i : Str} (r : Rp K H v (.str i)) : v = .str i := by cases r; rfl
theorem Rp.of_none (r : Rp K H v .none) : v = .non := by cases r; rfl
theorem Rp.of_tup {ds : List D} (r : Rp K H v (.tuple ds)) : ∃ a vs, v = .ref a ∧ SqT K H a vs ∧ RpAll K H vs ds := by cases r with | tup h r => exact ⟨_, _, rfl, h, r⟩
theorem Rp.of_lst {ds : List D} (r : Rp K H v (.list ds)) : ∃ a vs, v = .ref a ∧ Lq K H a vs ∧ RpAll K H vs ds := by cases r with | lst h r => exact ⟨_, _, rfl, h, r⟩
theorem Rp.of_dct {ds : List (D × D)} (r : Rp K H v (.dict ds)) : ∃ a kvs, v = .ref a ∧ H a = some (.dK kvs) ∧ RpKV K H kvs ds := by cases r with | dct h r => exact ⟨_, _, rfl, h, r⟩
end

mutual
theorem Rp.dp {K : Frg} {H : Hp} : ∀ {v : V} {d : D}, Rp K H v d → d.hasDict = false → Dp K H v d
  | _, _, .non, _ => .non
  | _, _, .bl b, _ => .bl b
  | _, _, .int i, _ => .int i
  | _, _, .str x, _ => .str x
  | _, _, .lst h r, e => .lst h.sq (RpAll.dp r (by simpa [PyData.hasDict] using e))
  | _, _, .tup h r, e => .tup h (RpAll.dp r (by simpa [PyData.hasDict] using e))
  | _, _, .dct h r, e => by simp [PyData.hasDict] at e
theorem RpAll.dp {K : Frg} {H : Hp} : ∀ {vs : List V} {ds : List D}, RpAll K H vs ds → PyData.hasDictAll ds = false → DpAll K H vs ds
  | _, _, .nil, _ => .nil
  | _, _, .cons r t, e => by
    simp only [PyData.hasDictAll, Bool.or_eq_false_iff] at e
    exact .cons (Rp.dp r e.1) (RpAll.dp t e.2)
end
end PV
set_option Elab.async false
set_option linter.all false
set_option autoImplicit false
set_option maxRecDepth 100000
set_option maxHeartbeats 2000000
/-! PV: rules by values that the hand layer lacks. -/
namespace PV
open PySem PySem.Spec PyProof.Rows L2
/-- t * x: the tuple itself -/
theorem tup_rep_same (l : Addr) (items : Array Value) (n : Nat) (dd : Option Addr) (sl : Array (Option Value)) (x : Int) (u : Tok) (c0 : (decide (x < -(2 ^ 63)) || decide (x ≥ 2 ^ 63)) = false) (c1 : (items.isEmpty || x == 1) = true) :
    Meets (Builtin.«tuple.__mul__» ⟨[.ref l, .int x u], []⟩) (fun _ R s => s.heap.get? l = some { cls := .type "tuple", dict := dd, data := .seq items n, slots := sl } ∧ R (.ok (.ret (.ref l))) s) :=
  .of_wp fun prog w A R s h => by
    obtain ⟨hp, g, d, tk, os⟩ := s
    obtain ⟨hl, h⟩ := h
    have f1 := AutoSeq1.idx_int
    wp_walk using AutoSeq1.wpAny_loadPart' hl
    repeat (first
      | (refine wpAny_ite_false (decide_eq_false (by rw [c0]; exact Bool.false_ne_true)) ?_; wp_walk using AutoSeq1.wpAny_loadPart' hl)
      | (refine wpAny_ite_true (decide_eq_true c1) ?_; wp_walk using AutoSeq1.wpAny_loadPart' hl))
    exact ⟨_, rfl, h⟩
/-- t * x: a new empty tuple -/
theorem tup_rep_none (l : Addr) (items : Array Value) (n : Nat) (dd : Option Addr) (sl : Array (Option Value)) (x : Int) (u : Tok) (c0 : (decide (x < -(2 ^ 63)) || decide (x ≥ 2 ^ 63)) = false) (c1 : (items.isEmpty || x == 1) = false)
    (c2 : (decide (x ≤ 0) || items.isEmpty) = true) :
    Meets (Builtin.«tuple.__mul__» ⟨[.ref l, .int x u], []⟩) (fun _ R s => s.heap.get? l = some { cls := .type "tuple", dict := dd, data := .seq items n, slots := sl } ∧
      R (.ok (.ret (Value.ref s.heap.objs.size))) { s with heap := s.heap.push { cls := Value.type "tuple", data := Data.seq #[] }, toks := s.toks }) :=
  .of_wp fun prog w A R s h => by
    obtain ⟨hp, g, d, tk, os⟩ := s
    obtain ⟨hl, h⟩ := h
    have f1 := AutoSeq1.idx_int
    wp_walk using AutoSeq1.wpAny_loadPart' hl
    repeat (first
      | (refine wpAny_ite_false (decide_eq_false (by rw [c0]; exact Bool.false_ne_true)) ?_; wp_walk using AutoSeq1.wpAny_loadPart' hl)
      | (refine wpAny_ite_false (decide_eq_false (by rw [c1]; exact Bool.false_ne_true)) ?_; wp_walk using AutoSeq1.wpAny_loadPart' hl)
      | (refine wpAny_ite_true (decide_eq_true c2) ?_; wp_walk using AutoSeq1.wpAny_loadPart' hl))
    exact ⟨_, rfl, h⟩
/-- a tuple times a number -/
def rRepW (K : PySem.W.Frag) : R2 := fun x y H Q => ∃ l k xs, x = .ref l ∧ y = .int k ∧ SqT K H l xs ∧ -(2 ^ 62) < k ∧ k < 2 ^ 62 ∧ xs.length * k.toNat ≤ 1000000 ∧
  (xs = [] ∨ k = 1 → Q (.ref l) H) ∧ (xs ≠ [] → k ≠ 1 → ∀ p, H p = none → Q (.ref p) (upd H p (.tup (List.replicate k.toNat xs).flatten)))
section
variable {X : Cx}
theorem op_repW : OpR X (binaryOp .Mult) (rRepW X.K) := by
  intro pins s σ H x y v u Q I rx ry h
  obtain ⟨l, k, xs, rfl, rfl, hT, b1, b2, hz, q1, q2⟩ := h
  cases rx
  obtain ⟨t, rfl⟩ := ry
  obtain ⟨its, r, ⟨⟨cls, dd, data, sl⟩, ho, hc, n, hd⟩, hs⟩ := I.tuple hT
  simp only at hc hd
  subst hc hd
  have len : its.length = xs.length := r.length.symm
  have z0 : its.toArray.size = xs.length := by rw [List.size_toArray, len]
  have emp : its.toArray.isEmpty = xs.isEmpty := by
    cases its <;> cases xs <;> first | rfl | (simp at len)
  have c0 : (decide (k < -(2 ^ 63)) || decide (k ≥ 2 ^ 63)) = false := by
    rw [Bool.or_eq_false_iff]
    exact ⟨decide_eq_false (by omega), decide_eq_false (by omega)⟩
  refine wpAny_binaryOp_repeat_ref (T := "tuple") (U := "int") (by decide) ⟨_, ho, rfl⟩ (fun s' => typeIs_int s' k t) noFill_tuple_mul F.fills_int_mul F.slot_int_rmul repeat_tuple F.slot_int_index.lookup
    (call_meets F.slot_int_rmul (typeIs_int s k t) F.entry_int_rmul (F.args_int_rmul_2 _ _) (int_rmul_tuple k t l its.toArray n dd sl) ⟨ho, rfl, ⟨_, ho, rfl⟩, ?_⟩)
  by_cases e1 : xs = [] ∨ k = 1
  · have c1 : (its.toArray.isEmpty || k == 1) = true := by
      rw [emp, Bool.or_eq_true, beq_iff_eq, List.isEmpty_iff]
      exact e1
    exact call_meets F.slot_tuple_mul ⟨_, ho, rfl⟩ F.entry_tuple_mul (F.args_tuple_mul_2 _ _) (tup_rep_same l its.toArray n dd sl k t c0 c1) ⟨ho, .ref l, H, I, rfl, q1 e1⟩
  · have n1 : xs ≠ [] := fun e => e1 (.inl e)
    have n2 : k ≠ 1 := fun e => e1 (.inr e)
    have xe : xs.isEmpty = false := by cases xs with | nil => exact absurd rfl n1 | cons _ _ => rfl
    have c1 : (its.toArray.isEmpty || k == 1) = false := by
      rw [emp, xe, Bool.false_or]
      exact beq_eq_false_iff_ne.mpr n2
    by_cases e2 : k ≤ 0
    · have c2 : (decide (k ≤ 0) || its.toArray.isEmpty) = true := by rw [decide_eq_true e2, Bool.true_or]
      have k0 : k.toNat = 0 := by omega
      have q3 := q2 n1 n2
      rw [k0] at q3
      refine call_meets F.slot_tuple_mul ⟨_, ho, rfl⟩ F.entry_tuple_mul (F.args_tuple_mul_2 _ _) (tup_rep_none l its.toArray n dd sl k t c0 c1 c2)
        ⟨ho, .ref s.heap.objs.size, _, I.laid (t' := s.toks) (o := .tup []) (fun b ob q => Heap.get?_push_of_some _ q) (Nat.le_refl _) ?_, rfl, q3 _ (I.hok.fresh (Nat.le_refl _))⟩
      exact ⟨Nat.zero_le _, [], .nil, IsTup.new _ _⟩
    · have c2 : (decide (k ≤ 0) || its.toArray.isEmpty) = false := by
        rw [emp, xe, Bool.or_false]
        exact decide_eq_false e2
      have hm : ((its.toArray.size : Nat) : Int) * k ≤ 1000000 := by
        rw [z0]
        have e3 : k = (k.toNat : Int) := by omega
        have e4 : ((xs.length : Nat) : Int) * (k.toNat : Int) = ((xs.length * k.toNat : Nat) : Int) := (Int.natCast_mul _ _).symm
        rw [e3, e4]
        omega
      have flen : (List.replicate k.toNat xs).flatten.length ≤ sizeLine := by
        rw [PyProof.Rows.lm_len_rep_flat, sizeLine_eq, Nat.mul_comm]
        omega
      have flen2 : (List.replicate k.toNat its).flatten.length ≤ sizeLine := by
        rw [PyProof.Rows.lm_len_rep_flat, len, sizeLine_eq, Nat.mul_comm]
        omega
      have c4 : Builtin.Tuple.tupleTooMany (((its.toArray.size : Nat) : Int) * k) = false := by
        unfold Builtin.Tuple.tupleTooMany
        rw [sizeLine_eq]
        exact decide_eq_false (by omega)
      refine call_meets F.slot_tuple_mul ⟨_, ho, rfl⟩ F.entry_tuple_mul (F.args_tuple_mul_2 _ _) (tuple_mulW l its.toArray n dd sl k t c0 c1 c2 (by omega) c4 (by rw [size_rep, List.size_toArray]; exact flen2)) ⟨ho, ?_⟩
      rw [size_rep]
      refine ⟨.ref s.heap.objs.size, _, I.laid (t' := s.toks) (o := .tup (List.replicate k.toNat xs).flatten) (fun b ob q => Heap.get?_push_of_some _ q) (Nat.le_refl _) ?_, rfl, q2 n1 n2 _ (I.hok.fresh (Nat.le_refl _))⟩
      exact ⟨flen, _, r.rep k.toNat, IsTup.new _ _⟩
/-- a text times a number -/
def rRepS : R2 := fun x y H Q => ∃ (z : Str) (k : Int), x = .str z ∧ y = .int k ∧ -(2 ^ 62) < k ∧ k < 2 ^ 62 ∧ z.length * k.toNat ≤ 1000000 ∧ Q (.str ⟨(List.replicate k.toNat z.cps.toList).flatten.toArray⟩) H
theorem cps_rep (cs : List Nat) (m : Nat) : (List.replicate m cs.toArray).foldl (fun a b => a ++ b) (#[] : Array Nat) = (List.replicate m cs).flatten.toArray := by
  have key : ∀ (m : Nat) (acc : List Nat), (List.replicate m cs.toArray).foldl (fun a b => a ++ b) acc.toArray = (acc ++ (List.replicate m cs).flatten).toArray := by
    intro m
    induction m with
    | zero => intro acc; simp
    | succ m ih =>
      intro acc
      rw [List.replicate_succ, List.foldl_cons, List.append_toArray, ih, List.replicate_succ, List.flatten_cons, List.append_assoc]
  have z := key m []
  rw [List.nil_append] at z
  exact z
theorem op_repSt : OpR X (binaryOp .Mult) rRepS := by
  intro pins s σ H x y v u Q I rx ry h
  obtain ⟨z, k, rfl, rfl, b1, b2, hz, q⟩ := h
  obtain ⟨t, rfl⟩ := rx
  obtain ⟨t2, rfl⟩ := ry
  have zl : z.length = z.cps.toList.length := by rw [Array.length_toList]; rfl
  have out : ∀ (y : Str) (tk : Nat), y = ⟨(List.replicate k.toNat z.cps.toList).flatten.toArray⟩ → EP X pins σ Q (.str y tk) { s with toks := s.toks + 1 } := fun y tk e => by
    subst e
    exact ⟨.str _, H, I.tok _, ⟨tk, rfl⟩, q⟩
  refine PySem.P.mul_str ?_ (fun h1 _ => ?_) (fun h1 _ => ?_) ?_
  · rw [Bool.or_eq_false_iff]
    exact ⟨decide_eq_false (by omega), decide_eq_false (by omega)⟩
  · have k1 : 1 ≤ k := by omega
    have : (z.length : Int) ≤ (2 ^ 63 - 1) / k := by
      refine (Int.le_ediv_iff_mul_le (by omega)).mpr ?_
      have e3 : k = (k.toNat : Int) := by omega
      have e4 : ((z.length : Nat) : Int) * (k.toNat : Int) = ((z.length * k.toNat : Nat) : Int) := (Int.natCast_mul _ _).symm
      rw [e3, e4]
      omega
    omega
  · unfold Builtin.Str.tooLong
    rw [sizeLine_eq]
    exact decide_eq_false (by omega)
  · have same : k = 1 ∨ z.length = 0 → z = ⟨(List.replicate k.toNat z.cps.toList).flatten.toArray⟩ := fun e => by
      rcases e with e | e
      · subst e
        show z = ⟨(List.replicate (Int.toNat 1) z.cps.toList).flatten.toArray⟩
        simp
      · have e0 : z.cps.toList = [] := List.eq_nil_of_length_eq_zero (by rw [← zl]; exact e)
        rw [e0]
        obtain ⟨cps⟩ := z
        have e0 : cps.toList = [] := e0
        have : cps = #[] := by cases cps; simpa using e0
        rw [this]
        simp
    by_cases h1 : k < 1
    · rw [if_pos h1]
      have k0 : k.toNat = 0 := by omega
      exact ⟨by decide, out _ _ (by rw [k0]; rfl)⟩
    · rw [if_neg h1]
      by_cases h2 : (k == 1 || z.length == 0) = true
      · rw [if_pos h2]
        have h3 : k = 1 ∨ z.length = 0 := by
          rw [Bool.or_eq_true, beq_iff_eq, beq_iff_eq] at h2
          exact h2
        rw [← same h3] at q
        exact ⟨.str z, H, I, ⟨t, rfl⟩, q⟩
      · rw [if_neg h2]
        have e := cps_rep z.cps.toList k.toNat
        rw [Array.toArray_toList] at e
        refine ⟨?_, out _ _ (by rw [e])⟩
        show (List.foldl (fun a b => a ++ b) #[] (List.replicate k.toNat z.cps)).size ≤ sizeLine
        rw [e, List.size_toArray, PyProof.Rows.lm_len_rep_flat, ← zl, sizeLine_eq, Nat.mul_comm]
        omega
/-- d[k], of tracked dicts -/
theorem ix_dict (hu : X.A.units + 1 < cLine) : IxR X (fun x y H Q => ∃ a v, x = .ref a ∧ DGet H a y (some v) ∧ Q v H) := by
  intro value slice pins s σ H x y v u Q I rx ry ⟨a, r, ex, gd, q⟩ hs
  subst ex
  cases rx
  have hT := dict_typeIs I gd
  unfold subscriptTail
  refine wpAny_bind ?_
  rw [getitemInPython_of_ne hT.not_modules]
  refine wpAny_bind (wpAny_specialOf hT PySem.F.slot_dict_getitem.lookup ?_)
  have run : wpAny (model X.prog X.w) X.A (getItem (.ref a) u) (EP X pins σ Q) X.xe s := d_getItem hu I gd ry fun w' s3 I3 rw' => ⟨r, H, I3, rw', q⟩
  have fin : wpAny (model X.prog X.w) X.A (subscripted slice false (.ref a) u) (fun z s3 => wpAny (model X.prog X.w) X.A (letTemporaryGo value (.ref a) z >>= fun _ => pure z) (EP X pins σ Q) X.xe s3) X.xe s := by
    rw [hs]
    exact wpAny_operating (wpAny_mono run (fun z s3 h3 => wpAny_bind (wpAny_letTemporaryGo (wpAny_pure h3))) fun _ _ x => x)
  first
    | exact wpAny_pure (wpAny_bind fin)
    | exact wpAny_bind (wpAny_pure (wpAny_bind fin))
    | exact wpAny_bind fin
/-- d[k] = v, of tracked dicts -/
theorem set_dict (hu : X.A.units + 1 < cLine) : PSet X (fun o i v H Q => ∃ a H', o = .ref a ∧ DPut H a i v H' ∧ Q H') := by
  intro pins s σ H o i v ov iv u Q I ro ri rv ⟨a, H', e, gd, q⟩
  subst e
  cases ro
  exact d_setItem hu I gd ri rv fun s' I' => ⟨H', I', q⟩
theorem PSet.or {t t' : TSet} (h : PSet X t) (h' : PSet X t') : PSet X (fun o i v H Q => t o i v H Q ∨ t' o i v H Q) := by
  intro pins s σ H o i v ov iv u Q I ro ri rv q
  rcases q with q | q
  · exact h pins s σ H o i v ov iv u Q I ro ri rv q
  · exact h' pins s σ H o i v ov iv u Q I ro ri rv q
theorem op_din (hu : X.A.units + 1 < cLine) : OpR X (compareOp .In) (fun x y H Q => ∃ a o, y = .ref a ∧ DGet H a x o ∧ Q (.bl o.isSome) H) := by
  intro pins s σ H x y v u Q I rx ry ⟨a, o, e, gd, q⟩
  subst e
  cases ry
  exact d_in hu I gd rx fun s' I' => ⟨.bl _, H, I', rfl, q⟩
theorem op_dnotin (hu : X.A.units + 1 < cLine) : OpR X (compareOp .NotIn) (fun x y H Q => ∃ a o, y = .ref a ∧ DGet H a x o ∧ Q (.bl (!o.isSome)) H) := by
  intro pins s σ H x y v u Q I rx ry ⟨a, o, e, gd, q⟩
  subst e
  cases ry
  exact d_notIn hu I gd rx fun s' I' => ⟨.bl _, H, I', rfl, q⟩
end
end PV
set_option Elab.async false
set_option linter.all false
set_option autoImplicit false
set_option maxRecDepth 100000
set_option maxHeartbeats 4000000
/-! PV: enumerate and zip over lists and tuples in any mix. -/
namespace PV
open PySem PySem.Spec PyProof.Rows L2
/-- a list (false), a tuple (true), as it is read -/
def Sqb (tp : Bool) (K : PySem.W.Frag) (H : Hp) (a : Addr) (xs : List V) : Prop := if tp then SqT K H a xs else SqL K H a xs
def SIt (tp : Bool) (h : Heap) (it a : Addr) (i : Nat) : Prop := if tp then h.IsTupleIter it a i else h.IsListIter it a i
def SHas (tp : Bool) (h : Heap) (a : Addr) (items : Array Value) : Prop := if tp then h.IsTuple a items else h.IsList a items
def itO (tp : Bool) (a : Addr) : Obj := { cls := .type (if tp then "tuple_iterator" else "list_iterator"), data := .fields #[.ref a, .int 0 0] }
section
variable {X : Cx} {pins : List (Addr × Obj)} {s : Shared} {σ : L2.St} {H : Hp} {tp : Bool} {a : Addr} {xs ys : List V}
theorem Sqb.at (I : Inv X pins σ H s) (h : Sqb tp X.K H a xs) : ∃ its : List Value, Vals xs its ∧ SHas tp s.heap a its.toArray := by
  cases tp with
  | true => obtain ⟨its, r, p, _⟩ := I.tuple h; exact ⟨its, r, p⟩
  | false => obtain ⟨its, r, p, _⟩ := I.list h; exact ⟨its, r, p.isList⟩
theorem Sqb.inj (I : Inv X pins σ H s) (h : Sqb tp X.K H a xs) (h' : Sqb tp X.K H a ys) : xs = ys := by
  cases tp with
  | true => exact I.tuple_inj h h'
  | false => exact I.list_inj h h'
theorem SHas.lt {h : Heap} {items : Array Value} (x : SHas tp h a items) : a < h.objs.size := by
  cases tp with
  | true => obtain ⟨o, ho, _⟩ := x; exact Heap.lt_size ho
  | false => obtain ⟨o, ho, _⟩ := x; exact Heap.lt_size ho
theorem SIt.at {h h' : Heap} {it : Addr} {i : Nat} (x : SIt tp h it a i) (k : ∀ o, h.get? it = some o → h'.get? it = some o) : SIt tp h' it a i := by
  cases tp with
  | true => exact Heap.IsTupleIter.at x k
  | false => exact Heap.IsListIter.at x k
theorem SIt.ob {h : Heap} {it : Addr} {i : Nat} (x : SIt tp h it a i) : ∃ o, h.get? it = some o ∧ ∀ v, o.data ≠ .cell v := by
  cases tp with
  | true => obtain ⟨o, ho, _, hd⟩ := x; exact ⟨o, ho, fun v q => by rw [hd] at q; cases q⟩
  | false => obtain ⟨o, ho, _, hd⟩ := x; exact ⟨o, ho, fun v q => by rw [hd] at q; cases q⟩
theorem drawsS {prog : Program} {w : World} {A : Around} (tp : Bool) (hh : A.handled = none) (it t : Addr) (hne : t ≠ it) (items : Array Value) :
    Draws prog w A it [it, t] items.size (fun i v => items[i]? = some v) (fun i h => SIt tp h it t i ∧ SHas tp h t items) := by
  cases tp with
  | true => exact Draws.tuple hh it t hne items
  | false => exact Draws.list hh it t hne items
theorem begS (tp : Bool) (a : Addr) (items : Array Value) : Begins (.ref a) (itO tp a) (fun h => SHas tp h a items) := by
  cases tp with
  | true => exact begins_tuple a items
  | false => exact begins_list a items
theorem itO_it {h : Heap} {it : Addr} (e : h.get? it = some (itO tp a)) : SIt tp h it a 0 := by
  cases tp with
  | true => exact ⟨_, e, rfl, rfl⟩
  | false => exact ⟨_, e, rfl, rfl⟩
/-- a turn of a walk that gives tuples -/
theorem item_of {I : Addr} {fp wr : List Addr} {n i : Nat} {Pt : Nat → Array Value → Prop} {St : Nat → Heap → Prop} {Mid : Nat → Addr → Heap → Prop} {E : Value → Shared → Prop} {elts : List Expr} {kk : Nat} {tpos : Pos}
    (W : WalksT X.prog X.w X.A I fp wr n Pt St Mid) (J : Inv X pins σ H s) (hf : ∀ b ∈ wr, FpOk X pins H b) (hlt : i < n) (st : St i s.heap) {R : V → Hp → Shared → Prop}
    (mk : ∀ vals, Pt i vals → ∃ us : List V, Vals us vals.toList ∧ us.length ≤ 1000 ∧ ∀ (T : Addr) (s2 : Shared), H T = none → s.heap.objs.size ≤ T → St (i + 1) s2.heap → Inv X pins σ (upd H T (.tup us)) s2 → (∀ b o, b ∉ wr → s.heap.get? b = some o → s2.heap.get? b = some o) → R (.ref T) (upd H T (.tup us)) s2) :
    wpAny (model X.prog X.w) X.A (pyNext (.ref I)) (fun r s1 => ∃ u, r = some u ∧ wpAny (model X.prog X.w) X.A (letOwnedTupleGo (.Tuple elts kk tpos) (.ref I) u) (fun _ s2 => ∃ x H', Inv X pins σ H' s2 ∧ RelV x u ∧ R x H' s2) E s1) E s := by
  refine W.item i s _ _ hlt st fun T vals h' tk hP hT hTup hM hk => ⟨_, rfl, ?_⟩
  refine W.go elts kk tpos i T { s with heap := h', toks := tk } _ _ hM fun h'' st' hk' => ?_
  obtain ⟨us, ru, hl, fin⟩ := mk vals hP
  have hT2 : h''.IsTuple T vals := by
    obtain ⟨o, ho, r⟩ := hTup
    exact ⟨o, hk' T o (W.apart _ _ _ hM) ho, r⟩
  have new : ObjOk X.prog X.w (upd H T (.tup us)) h'' T (.tup us) := ⟨by rw [sizeLine_eq]; omega, vals.toList, ru, by obtain ⟨o, ho, hc, n, hd⟩ := hT2; exact ⟨o, ho, hc, n, by simpa using hd⟩⟩
  have keep : ∀ b o, b ∉ wr → s.heap.get? b = some o → h''.get? b = some o := fun b o hb e => hk' b o hb (hk b o hb e)
  have J2 : Inv X pins σ (upd H T (.tup us)) { s with heap := h'', toks := tk } := J.turnedNew keep hf hT new
  exact ⟨.ref T, _, J2, rfl, fin T _ (J.hok.fresh hT) hT st' J2 keep⟩
end
/-! ### enumerate -/
def IteS (tp : Bool) (K : PySem.W.Frag) (a : Addr) : It :=
  ⟨fun i H => ∃ (xs : List V) (x : V), Sqb tp K H a xs ∧ xs[i]? = some x, fun i H v H' => ∃ T x, v = .ref T ∧ H T = none ∧ H' = upd H T (.tup [.int (i : Nat), x]) ∧ ∀ xs, Sqb tp K H a xs → xs[i]? = some x, fun i H => ∃ xs : List V, Sqb tp K H a xs ∧ xs.length = i⟩
theorem turn_enumS {P : Program} {w : World} {K : PySem.W.Frag} {elts : List Expr} {kk : Nat} {tpos : Pos} (tp : Bool) (a e it : Addr) :
    Turn P w K (.Tuple elts kk tpos) (IteS tp K a) [e, it] e (fun i h => (∃ old, IsEnum h e it ((i : Nat) : Int) old) ∧ SIt tp h it a i ∧ e ≠ it ∧ e ≠ a ∧ a ≠ it) where
  mem := by simp
  obj := fun i h st b hb => by
    obtain ⟨⟨old, he⟩, hi, _⟩ := st
    rcases List.mem_cons.mp hb with z | z
    · rw [z]; exact ⟨_, he, fun v q => nomatch q⟩
    · rw [List.mem_singleton.mp z]; exact hi.ob
  keep := fun i h h' st k => let ⟨⟨old, he⟩, hi, hne⟩ := st; ⟨⟨old, k e (by simp) _ he⟩, hi.at fun o q => k it (by simp) o q, hne⟩
  item := by
    intro X hP hw hK hc i pins s σ H E I hf st hg
    subst hP hw hK
    obtain ⟨⟨old, he⟩, hit, n1, n2, n3⟩ := st
    obtain ⟨xs, x, hq, hx⟩ := hg
    obtain ⟨its, rv, p⟩ := hq.at I
    have hlen : i < its.toArray.size := by
      have := (List.getElem?_eq_some_iff.mp hx).1
      rw [List.size_toArray, ← rv.length]
      exact this
    have W := WalksT.enumFrom (prog := X.prog) (w := X.w) (A := X.A) 0 (drawsS tp (A := X.A.in1) (by simpa using I.ok.hd hc) it a n3 its.toArray) e n1 (by simp [n1, n2]) (by simp)
    refine item_of W I hf hlen ⟨⟨old, by simpa using he⟩, hit, p⟩ (R := fun x H' s2 => (IteS tp X.K a).yld i H x H' ∧ _ ∧ _) fun vals hv => ?_
    obtain ⟨t, y, hy, ev⟩ := hv
    obtain ⟨u, hu, ru⟩ := rv.get hx
    have ey : y = u := by
      have hy : its.toArray[i]? = some y := hy
      rw [List.getElem?_toArray, hu] at hy
      exact (Option.some.inj hy).symm
    subst ey ev
    refine ⟨[.int (i : Nat), x], .cons ⟨t, by simp⟩ (.cons ru .nil), by simp, fun T s2 hT hsz st' I2 kp => ⟨⟨T, x, rfl, hT, rfl, fun zs hz => by rw [hz.inj I hq]; exact hx⟩, ⟨⟨st'.1.choose, ?_⟩, st'.2.1, n1, n2, n3⟩, fun b hb => ?_⟩⟩
    · have := st'.1.choose_spec
      simpa using this
    · have hlt : b < s.heap.objs.size := by
        rcases List.mem_cons.mp hb with z | z
        · rw [z]; exact Heap.lt_size he
        · rw [List.mem_singleton.mp z]; obtain ⟨o, ho, _⟩ := hit.ob; exact Heap.lt_size ho
      rw [upd_ne (by have : b < T := Nat.lt_of_lt_of_le hlt hsz; exact Nat.ne_of_lt this)]
      exact (hf b hb).1
  done := by
    intro X hP hw hK hc i pins s σ H E I hf st hg
    subst hP hw hK
    obtain ⟨⟨old, he⟩, hit, n1, n2, n3⟩ := st
    obtain ⟨xs, hq, hx⟩ := hg
    obtain ⟨its, rv, p⟩ := hq.at I
    have W := WalksT.enumFrom (prog := X.prog) (w := X.w) (A := X.A) 0 (drawsS tp (A := X.A.in1) (by simpa using I.ok.hd hc) it a n3 its.toArray) e n1 (by simp [n1, n2]) (by simp)
    have hn : its.toArray.size = i := by rw [List.size_toArray, ← rv.length]; exact hx
    refine W.done s _ _ (by rw [hn]; exact ⟨⟨old, by simpa using he⟩, hit, p⟩) fun h' tk hk => ⟨rfl, I.turnedL (t' := tk) (ch := [e, it]) hk hf⟩
  self := fun A i s Q E st h => let ⟨⟨_, he⟩, _⟩ := st; wpAny_pyIter_enum he h
/-- a source of a walk, its kind and its cell -/
def iEnumS (K : PySem.W.Frag) (ta : TA) : TI := fun σ H R => ta σ H fun vs H1 => ∃ tp a xs, vs = [.ref a] ∧ Sqb tp K H1 a xs ∧ R (IteS tp K a) H1
set_option maxHeartbeats 1000000 in
theorem meets_enum1 {v : Value} {o : Obj} {H : Heap → Prop} (B : Begins v o H) :
    Meets (Builtin.«enumerate.__new__» ⟨[.type "enumerate", v], []⟩) (fun _ R s => H s.heap ∧
      R (.ok (.ret (.ref (s.heap.push o).objs.size))) { s with heap := (s.heap.push o).push { cls := .type "enumerate", data := .fields #[.none, .bool false, .ref s.heap.objs.size, rawInt 0, .none, .none] } }) :=
  .of_wp fun prog w A R s h => by
    obtain ⟨hp, g, d, tk, os⟩ := s
    obtain ⟨h1, h⟩ := h
    have sub := sub_enumerate
    have begin1 : ∀ {A' : Around} {E : Value → Shared → Prop} {Q : Value → Shared → Prop}, Q (.ref hp.objs.size) ⟨hp.push o, g, d, tk, os⟩ → wpAny (model prog w) A' (pyIter v) Q E ⟨hp, g, d, tk, os⟩ :=
      fun q => B.iter prog w _ _ ⟨hp, g, d, tk, os⟩ _ h1 q
    wp_walk using begin1
    refine wpAny_stack_any fun st => wpAny_pure ?_
    split
    · rename_i c _ _ _ _ _
      cases (c == Value.type "enumerate") <;> (wp_walk using begin1; exact ⟨_, rfl, h⟩)
    · wp_walk using begin1
      exact ⟨_, rfl, h⟩
section
variable {prog : Program} {w : World} {A : Around} {E : Value → Shared → Prop} {s : Shared}
theorem call_enum1 {v : Value} {o : Obj} {H : Heap → Prop} {Q : Value → Shared → Prop} (B : Begins v o H) (h1 : H s.heap)
    (h : ∀ h', IsEnum h' (s.heap.objs.size + 1) s.heap.objs.size 0 .none → h'.get? s.heap.objs.size = some o → (∀ b o, s.heap.get? b = some o → h'.get? b = some o) → Q (.ref (s.heap.objs.size + 1)) { s with heap := h' }) :
    wpAny (model prog w) A (call (.type "enumerate") [v]) Q E s := by
  refine callType_new F.called_enumerate (by decide) (F.typeCall_enumerate_1 _) (F.newCall_enumerate_1 _) (fun obj => F.args_object_init_2 obj _) F.entry_enumerate_new (meets_enum1 B) ⟨h1, ?_⟩
  have hz : (s.heap.push o).objs.size = s.heap.objs.size + 1 := Heap.size_push ..
  show _ ∧ _
  rw [hz]
  have he : IsEnum ((s.heap.push o).push { cls := .type "enumerate", data := .fields #[.none, .bool false, .ref s.heap.objs.size, rawInt 0, .none, .none] }) (s.heap.objs.size + 1) s.heap.objs.size 0 .none := by
    have e := Heap.get?_push_size (s.heap.push o) (o := { cls := .type "enumerate", data := .fields #[.none, .bool false, .ref s.heap.objs.size, rawInt 0, .none, .none] }) rfl
    rw [hz] at e
    exact e
  exact ⟨⟨_, he, rfl⟩, h _ he (Heap.get?_push_of_some _ (Heap.get?_push_size _ B.free)) fun b o x => Heap.get?_push_of_some _ (Heap.get?_push_of_some _ x)⟩
end
theorem pi_enumS {X : Cx} {e : Expr} {ta : TA} {p pos tpos : Pos} {elts : List Expr} {kk : Nat} (hg : Gl X "enumerate") (hm : X.mg "enumerate" = none) (ha : PA X [e] ta) (hs : starEach [e] X.env = [(false, eval e X.env)] := by rfl) :
    PI X (.Tuple elts kk tpos) (.Call (.Name "enumerate" p) [e] [] pos) (iEnumS X.K ta) := by
  refine ⟨fun pins s σ H R I h => ?_⟩
  refine Call_ (ld_blt I hg hm boot_enumerate (PyProof.Rows.callWith_type1 (thn (ha.run pos pins s σ H _ I h) fun us s1 ⟨vs, H1, I1, r1, tp, a, xs, ex, hq, q⟩ => ?_) hs rfl))
  subst ex
  obtain ⟨u, eu, ru⟩ := vals1 r1
  subst eu
  cases ru
  obtain ⟨its, rv, p'⟩ := hq.at I1
  have hlt := p'.lt
  refine call_enum1 (begS tp a its.toArray) p' fun h' he hit hk => wpAny_pyIter_enum he ?_
  have I2 : Inv X pins σ H1 { s1 with heap := h' } := I1.kept (t' := s1.toks) hk
  refine ⟨s1.heap.objs.size + 1, [s1.heap.objs.size + 1, s1.heap.objs.size], _, _, H1, rfl, I2, turn_enumS tp a (s1.heap.objs.size + 1) s1.heap.objs.size, ⟨⟨.none, he⟩, itO_it hit, Nat.succ_ne_self _, by have : a < s1.heap.objs.size := hlt; exact Ne.symm (Nat.ne_of_lt (Nat.lt_succ_of_lt this)), Nat.ne_of_lt hlt⟩, fun b hb => ?_, q⟩
  have hle : s1.heap.objs.size ≤ b := by
    rcases List.mem_cons.mp hb with z | z
    · rw [z]; exact Nat.le_add_right _ _
    · rw [List.mem_singleton.mp z]; exact Nat.le_refl _
  exact I1.fpOk hle (I1.hok.fresh hle)
/-! ### zip -/
def ItzS (t1 t2 : Bool) (K : PySem.W.Frag) (a b : Addr) : It :=
  ⟨fun i H => ∃ (xs ys : List V) (x y : V), Sqb t1 K H a xs ∧ Sqb t2 K H b ys ∧ xs[i]? = some x ∧ ys[i]? = some y,
    fun i H v H' => ∃ T x y, v = .ref T ∧ H T = none ∧ H' = upd H T (.tup [x, y]) ∧ (∀ xs, Sqb t1 K H a xs → xs[i]? = some x) ∧ ∀ ys, Sqb t2 K H b ys → ys[i]? = some y,
    fun i H => ∃ xs ys : List V, Sqb t1 K H a xs ∧ Sqb t2 K H b ys ∧ min xs.length ys.length = i⟩
theorem turn_zipS {P : Program} {w : World} {K : PySem.W.Frag} {elts : List Expr} {kk : Nat} {tpos : Pos} (t1 t2 : Bool) {a b z TI TO i1 i2 : Addr} (S : ZipSep2 z TI TO i1 i2 [i1, a] [i2, b]) (n1 : a ≠ i1) (n2 : b ≠ i2) :
    Turn P w K (.Tuple elts kk tpos) (ItzS t1 t2 K a b) [z, TI, TO, i1, i2] z (fun i h => IsZip h z TI TO .none ∧ IsTupOf2 h TI (.ref i1) (.ref i2) ∧ (∃ x y, IsTupOf2 h TO x y) ∧ SIt t1 h i1 a i ∧ SIt t2 h i2 b i) where
  mem := by simp
  obj := fun i h st c hc => by
    obtain ⟨hz, hTI, ⟨x, y, hTO⟩, h1, h2⟩ := st
    have e' : c = z ∨ c = TI ∨ c = TO ∨ c = i1 ∨ c = i2 := by simpa using hc
    rcases e' with q | q | q | q | q <;> rw [q]
    · exact ⟨_, hz, fun v q => nomatch q⟩
    · exact ⟨_, hTI, fun v q => nomatch q⟩
    · exact ⟨_, hTO, fun v q => nomatch q⟩
    · exact h1.ob
    · exact h2.ob
  keep := fun i h h' st k => by
    obtain ⟨hz, hTI, ⟨x, y, hTO⟩, h1, h2⟩ := st
    exact ⟨k z (by simp) _ hz, k TI (by simp) _ hTI, ⟨x, y, k TO (by simp) _ hTO⟩, h1.at fun o q => k i1 (by simp) o q, h2.at fun o q => k i2 (by simp) o q⟩
  item := by
    intro X hP hw hK hc i pins s σ H E I hf st hg
    subst hP hw hK
    obtain ⟨hz, hTI, ⟨x0, y0, hTO⟩, h1, h2⟩ := st
    obtain ⟨xs, ys, x, y, hqx, hqy, hx, hy⟩ := hg
    obtain ⟨its, rv, p⟩ := hqx.at I
    obtain ⟨its2, rv2, p2⟩ := hqy.at I
    have l1 : i < its.toArray.size := by
      rw [List.size_toArray, ← rv.length]; exact (List.getElem?_eq_some_iff.mp hx).1
    have l2 : i < its2.toArray.size := by
      rw [List.size_toArray, ← rv2.length]; exact (List.getElem?_eq_some_iff.mp hy).1
    have hd : X.A.in1.handled = none := by simpa using I.ok.hd hc
    have W := WalksT.zipD2 (prog := X.prog) (w := X.w) (A := X.A) S (drawsS t1 hd i1 a n1 its.toArray) (drawsS t2 hd i2 b n2 its2.toArray)
    have hfw : ∀ c ∈ [z, TO, i1, i2], FpOk X pins H c := fun c hc => hf c (by
      have : c = z ∨ c = TO ∨ c = i1 ∨ c = i2 := by simpa using hc
      rcases this with q | q | q | q <;> simp [q])
    refine item_of W I hfw (by omega) ⟨hz, hTI, ⟨x0, y0, hTO⟩, ⟨h1, p⟩, ⟨h2, p2⟩⟩ (R := fun x H' s2 => (ItzS t1 t2 X.K a b).yld i H x H' ∧ _ ∧ _) fun vals hv => ?_
    obtain ⟨v1, v2, e1, e2, ev⟩ := hv
    obtain ⟨u, hu, ru⟩ := rv.get hx
    obtain ⟨u2, hu2, ru2⟩ := rv2.get hy
    have q1 : v1 = u := by
      have e1 : its.toArray[i]? = some v1 := e1
      rw [List.getElem?_toArray, hu] at e1
      exact (Option.some.inj e1).symm
    have q2 : v2 = u2 := by
      have e2 : its2.toArray[i]? = some v2 := e2
      rw [List.getElem?_toArray, hu2] at e2
      exact (Option.some.inj e2).symm
    subst q1 q2 ev
    refine ⟨[x, y], .cons ru (.cons ru2 .nil), by simp, fun T s2 hT hsz st' I2 kp => ⟨⟨T, x, y, rfl, hT, rfl, fun zs hz => by rw [hz.inj I hqx]; exact hx, fun zs hz => by rw [hz.inj I hqy]; exact hy⟩, ⟨st'.1, st'.2.1, st'.2.2.1, st'.2.2.2.1.1, st'.2.2.2.2.1⟩, fun c hc => ?_⟩⟩
    have hlt : c < s.heap.objs.size := by
      have e' : c = z ∨ c = TI ∨ c = TO ∨ c = i1 ∨ c = i2 := by simpa using hc
      rcases e' with q | q | q | q | q <;> rw [q]
      · exact Heap.lt_size hz
      · exact Heap.lt_size hTI
      · exact Heap.lt_size hTO
      · obtain ⟨o, ho, _⟩ := h1.ob; exact Heap.lt_size ho
      · obtain ⟨o, ho, _⟩ := h2.ob; exact Heap.lt_size ho
    rw [upd_ne (by have : c < T := Nat.lt_of_lt_of_le hlt hsz; exact Nat.ne_of_lt this)]
    exact (hf c hc).1
  done := by
    intro X hP hw hK hc i pins s σ H E I hf st hg
    subst hP hw hK
    obtain ⟨hz, hTI, ⟨x0, y0, hTO⟩, h1, h2⟩ := st
    obtain ⟨xs, ys, hqx, hqy, hl⟩ := hg
    obtain ⟨its, rv, p⟩ := hqx.at I
    obtain ⟨its2, rv2, p2⟩ := hqy.at I
    have hd : X.A.in1.handled = none := by simpa using I.ok.hd hc
    have W := WalksT.zipD2 (prog := X.prog) (w := X.w) (A := X.A) S (drawsS t1 hd i1 a n1 its.toArray) (drawsS t2 hd i2 b n2 its2.toArray)
    have hn : min its.toArray.size its2.toArray.size = i := by rw [List.size_toArray, List.size_toArray, ← rv.length, ← rv2.length]; exact hl
    have hfw : ∀ c ∈ [z, TO, i1, i2], FpOk X pins H c := fun c hc => hf c (by
      have : c = z ∨ c = TO ∨ c = i1 ∨ c = i2 := by simpa using hc
      rcases this with q | q | q | q <;> simp [q])
    refine W.done s _ _ (by rw [hn]; exact ⟨hz, hTI, ⟨x0, y0, hTO⟩, ⟨h1, p⟩, ⟨h2, p2⟩⟩) fun h' tk hk => ⟨rfl, I.turnedL (t' := tk) (ch := [z, TO, i1, i2]) hk hfw⟩
  self := fun A i s Q E st h => wpAny_pyIter_zip st.1 h
def iZipS (K : PySem.W.Frag) (ta : TA) : TI := fun σ H R => ta σ H fun vs H1 => ∃ t1 t2 a b xs ys, vs = [.ref a, .ref b] ∧ Sqb t1 K H1 a xs ∧ Sqb t2 K H1 b ys ∧ R (ItzS t1 t2 K a b) H1
theorem pi_zipS {X : Cx} {e e2 : Expr} {ta : TA} {p pos tpos : Pos} {elts : List Expr} {kk : Nat} (hg : Gl X "zip") (hm : X.mg "zip" = none) (ha : PA X [e, e2] ta)
    (hs : starEach [e, e2] X.env = (false, eval e X.env) :: starEach [e2] X.env := by rfl) (hpl : (backTo pos (starEach [e2] X.env)).any (·.1) = false := by rfl) :
    PI X (.Tuple elts kk tpos) (.Call (.Name "zip" p) [e, e2] [] pos) (iZipS X.K ta) := by
  refine ⟨fun pins s σ H R I h => ?_⟩
  refine Call_ (ld_blt I hg hm PyProof.Rows.boot_zip (PyProof.Rows.callWith_type1 (thn (ha.run pos pins s σ H _ I h) fun us s1 ⟨vs, H1, I1, r1, t1, t2, a, b, xs, ys, ex, hqx, hqy, q⟩ => ?_) hs hpl))
  subst ex
  cases r1 with
  | cons r rr =>
    cases rr with
    | cons r' rr =>
      cases rr
      cases r
      cases r'
      obtain ⟨its, rv, p1⟩ := hqx.at I1
      obtain ⟨its2, rv2, p2⟩ := hqy.at I1
      have hla := p1.lt
      have hlb := p2.lt
      refine zip_begins2 (begS t1 a its.toArray) (begS t2 b its2.toArray) p1 p2 fun h' hz hTI hTO h1 h2 hsz hk => wpAny_pyIter_zip hz ?_
      have I2 : Inv X pins σ H1 { s1 with heap := h' } := I1.kept (t' := s1.toks) hk
      refine ⟨s1.heap.objs.size + 4, [s1.heap.objs.size + 4, s1.heap.objs.size + 2, s1.heap.objs.size + 3, s1.heap.objs.size, s1.heap.objs.size + 1], _, _, H1, rfl, I2, turn_zipS t1 t2 (zip_sep2 (N := s1.heap.objs.size) (fp1 := [a]) (fp2 := [b]) (by simpa using hla) (by simpa using hlb)) (Nat.ne_of_lt hla) (Nat.ne_of_lt (Nat.lt_succ_of_lt hlb)), ⟨hz, hTI, ⟨_, _, hTO⟩, itO_it h1, itO_it h2⟩, fun c hc => ?_, q⟩
      have e' : c = s1.heap.objs.size + 4 ∨ c = s1.heap.objs.size + 2 ∨ c = s1.heap.objs.size + 3 ∨ c = s1.heap.objs.size ∨ c = s1.heap.objs.size + 1 := by simpa using hc
      have hle : s1.heap.objs.size ≤ c := by
        rcases e' with z | z | z | z | z <;> rw [z] <;> first | exact Nat.le_add_right _ _ | exact Nat.le_refl _
      exact I1.fpOk hle (I1.hok.fresh hle)
end PV
set_option Elab.async false
set_option linter.all false
set_option autoImplicit false
set_option maxRecDepth 100000
set_option maxHeartbeats 1000000
/-! PV: a dict beside a thing of another kind. -/
namespace PV
open PySem PySem.Spec PyProof.Rows L2
open PySem.SeqAt
open AutoSeq1 (wpAny_loadPart')
open MeetsSeq
section
variable {prog : Program} {w : World} {A : Around} {E : Value → Shared → Prop} {s : Shared}
theorem dictEq_no {a : Addr} {x : Value} {T : String} {Q : Value → Shared → Prop} (ha : s.TypeIs (.ref a) "dict") (hx : s.TypeIs x T) (hs : isSubtype (.type T) (.type "dict") = pure false) (h : Q .notImplemented s) :
    ∀ {sl : String}, Slot "dict" sl "dict.__eq__" → wpAny (model prog w) A (call (.builtin "dict.__eq__") [.ref a, x]) Q E s := fun hS => by
  refine wpAny_call_entry hS ha PySem.F.entry_dict_eq ?_ (PySem.F.args_dict_eq_2 _ _)
  show wpAny _ _ (Builtin.Dict.dictSlotArgs "__eq__" ⟨[.ref a, x], []⟩ >>= _) _ _ s
  refine wpAny_bind ?_
  unfold Builtin.Dict.dictSlotArgs
  refine wpAny_bind (wpAny_notOrdered_dict ha ?_)
  show wpAny _ _ (pure (Value.ref a, x)) _ _ s
  refine wpAny_pure ?_
  refine wpAny_bind (wpAny_isInstance (T := T) hx hs ?_)
  simp only [Bool.not_false, if_true]
  exact wpAny_bind (wpAny_rule (wpAny_bind (wpAny_pure (wpAny_pure ⟨_, rfl, h⟩))))
end

def IsDo (o : Obj) : Prop := o.cls = .type "dict" ∧ ∃ es ep, o.data = .dict es ep
theorem intEqB_no (b : Bool) (l : Addr) (o : Obj) (ht : IsDo o) :
    Meets (Builtin.«int.__eq__» ⟨[.bool b, .ref l], []⟩) (fun _ R s => s.heap.get? l = some o ∧ R (.ok (.ret .notImplemented)) s) :=
  .of_wp fun prog w A R s h => by obtain ⟨hp, g, d, tk, os⟩ := s; obtain ⟨c, dd, da, sl⟩ := o; obtain ⟨h1, es, ep, h2⟩ := ht; obtain rfl : c = .type "dict" := h1; obtain rfl : da = .dict es ep := h2; obtain ⟨hl, h⟩ := h; wp_walk using wpAny_loadPart' hl, wpAny_load hl; exact ⟨_, rfl, h⟩
theorem intEqI_no (b : Int) (u : Tok) (l : Addr) (o : Obj) (ht : IsDo o) :
    Meets (Builtin.«int.__eq__» ⟨[.int b u, .ref l], []⟩) (fun _ R s => s.heap.get? l = some o ∧ R (.ok (.ret .notImplemented)) s) :=
  .of_wp fun prog w A R s h => by obtain ⟨hp, g, d, tk, os⟩ := s; obtain ⟨c, dd, da, sl⟩ := o; obtain ⟨h1, es, ep, h2⟩ := ht; obtain rfl : c = .type "dict" := h1; obtain rfl : da = .dict es ep := h2; obtain ⟨hl, h⟩ := h; wp_walk using wpAny_loadPart' hl, wpAny_load hl; exact ⟨_, rfl, h⟩
theorem strEq_no (b : Str) (u : Tok) (l : Addr) (o : Obj) (ht : IsDo o) :
    Meets (Builtin.«str.__eq__» ⟨[.str b u, .ref l], []⟩) (fun _ R s => s.heap.get? l = some o ∧ R (.ok (.ret .notImplemented)) s) :=
  .of_wp fun prog w A R s h => by obtain ⟨hp, g, d, tk, os⟩ := s; obtain ⟨c, dd, da, sl⟩ := o; obtain ⟨h1, es, ep, h2⟩ := ht; obtain rfl : c = .type "dict" := h1; obtain rfl : da = .dict es ep := h2; obtain ⟨hl, h⟩ := h; wp_walk using wpAny_loadPart' hl, wpAny_load hl; exact ⟨_, rfl, h⟩
theorem listEq_no (l b : Addr) (items : Array Value) (n : Nat) (dd : Option Addr) (sl : Array (Option Value)) (o : Obj) (ht : IsDo o) :
    Meets (Builtin.«list.__eq__» ⟨[.ref l, .ref b], []⟩) (fun _ R s => s.heap.get? l = some { cls := .type "list", dict := dd, data := .seq items n, slots := sl } ∧ s.heap.get? b = some o ∧ R (.ok (.ret .notImplemented)) s) :=
  .of_wp fun prog w A R s h => by obtain ⟨hp, g, d, tk, os⟩ := s; obtain ⟨c, dd', da, sl'⟩ := o; obtain ⟨h1, es, ep, h2⟩ := ht; obtain rfl : c = .type "dict" := h1; obtain rfl : da = .dict es ep := h2; obtain ⟨hl, hb, h⟩ := h; have f1 := F.sub_dict_list; wp_walk using wpAny_loadPart' hl, wpAny_loadPart' hb; exact ⟨_, rfl, h⟩
theorem tupEq_no (l b : Addr) (items : Array Value) (n : Nat) (dd : Option Addr) (sl : Array (Option Value)) (o : Obj) (ht : IsDo o) :
    Meets (Builtin.«tuple.__eq__» ⟨[.ref l, .ref b], []⟩) (fun _ R s => s.heap.get? l = some { cls := .type "tuple", dict := dd, data := .seq items n, slots := sl } ∧ s.heap.get? b = some o ∧ R (.ok (.ret .notImplemented)) s) :=
  .of_wp fun prog w A R s h => by obtain ⟨hp, g, d, tk, os⟩ := s; obtain ⟨c, dd', da, sl'⟩ := o; obtain ⟨h1, es, ep, h2⟩ := ht; obtain rfl : c = .type "dict" := h1; obtain rfl : da = .dict es ep := h2; obtain ⟨hl, hb, h⟩ := h; have f1 := F.sub_dict_tuple; wp_walk using wpAny_loadPart' hl, wpAny_loadPart' hb; exact ⟨_, rfl, h⟩

section
variable {A : Around} {s : Shared}
/-- a dict stands there -/
def DAt (s : Shared) (a : Addr) : Prop := ∃ o, s.heap.get? a = some o ∧ IsDo o
theorem DAt.ty {a : Addr} (h : DAt s a) : s.TypeIs (.ref a) "dict" := by obtain ⟨o, h1, h2, _⟩ := h; exact ⟨o, h1, h2⟩
theorem DAt.ne_list {a l : Addr} {items : Array Value} (h : DAt s a) (hl : s.heap.IsList l items) : a ≠ l := fun e => by
  subst e
  obtain ⟨o, h1, h2, _⟩ := h
  obtain ⟨o', k1, k2, _⟩ := hl
  rw [h1] at k1; cases k1
  rw [h2] at k2; exact absurd k2 (by simp)
theorem DAt.ne_tup {a l : Addr} {items : Array Value} (h : DAt s a) (hl : s.heap.IsTuple l items) : a ≠ l := fun e => by
  subst e
  obtain ⟨o, h1, h2, _⟩ := h
  obtain ⟨o', k1, k2, _⟩ := hl
  rw [h1] at k1; cases k1
  rw [h2] at k2; exact absurd k2 (by simp)
theorem RcAt.dict_none {a : Addr} (h : DAt s a) (hu : A.units < cLine) : RcAt A s (.ref a) .none false := fun prog w E Q q =>
  rc_eq_decline_or (k := false) h.ty rfl (by decide) F.sub_NoneType_dict F.slot_dict_eq F.slot_NoneType_eq_refl
    (fun _ hq => dictEq_no h.ty rfl F.sub_NoneType_dict hq F.slot_dict_eq)
    (fun _ hq => call_gives F.slot_NoneType_eq_refl rfl F.entry_NoneType_eq (F.args_NoneType_eq_2 _ _) (NoneType___eq___none_ref_0 a) hq)
    (fun _ hq => wpAny_of_eq (rfl : isSame (.ref a) .none = pure false) hq) (.inr hu) q
theorem RcAt.none_dict {a : Addr} (h : DAt s a) (hu : A.units < cLine) : RcAt A s .none (.ref a) false := fun prog w E Q q =>
  rc_eq_decline_or (k := false) rfl h.ty (by decide) F.sub_dict_NoneType F.slot_NoneType_eq F.slot_dict_eq_refl
    (fun _ hq => call_gives F.slot_NoneType_eq rfl F.entry_NoneType_eq (F.args_NoneType_eq_2 _ _) (NoneType___eq___none_ref_0 a) hq)
    (fun _ hq => dictEq_no h.ty rfl F.sub_NoneType_dict hq F.slot_dict_eq_refl)
    (fun _ hq => wpAny_of_eq (rfl : isSame .none (.ref a) = pure false) hq) (.inr hu) q
theorem RcAt.dict_bool {a : Addr} (h : DAt s a) (b : Bool) (hu : A.units < cLine) : RcAt A s (.ref a) (.bool b) false := fun prog w E Q q => by
  obtain ⟨o, h1, h2⟩ := id h
  exact rc_eq_decline_or (k := false) h.ty rfl (by decide) F.sub_bool_dict F.slot_dict_eq F.slot_bool_eq_refl
    (fun _ hq => dictEq_no h.ty rfl F.sub_bool_dict hq F.slot_dict_eq)
    (fun _ hq => call_meets F.slot_bool_eq_refl rfl F.entry_int_eq (F.args_int_eq_2 _ _) (intEqB_no b a o h2) ⟨h1, hq⟩)
    (fun _ hq => wpAny_of_eq (rfl : isSame (.ref a) (.bool b) = pure false) hq) (.inr hu) q
theorem RcAt.bool_dict {a : Addr} (h : DAt s a) (b : Bool) (hu : A.units < cLine) : RcAt A s (.bool b) (.ref a) false := fun prog w E Q q => by
  obtain ⟨o, h1, h2⟩ := id h
  exact rc_eq_decline_or (k := false) rfl h.ty (by decide) F.sub_dict_bool F.slot_bool_eq F.slot_dict_eq_refl
    (fun _ hq => call_meets F.slot_bool_eq rfl F.entry_int_eq (F.args_int_eq_2 _ _) (intEqB_no b a o h2) ⟨h1, hq⟩)
    (fun _ hq => dictEq_no h.ty rfl F.sub_bool_dict hq F.slot_dict_eq_refl)
    (fun _ hq => wpAny_of_eq (rfl : isSame (.bool b) (.ref a) = pure false) hq) (.inr hu) q
theorem RcAt.dict_int {a : Addr} (h : DAt s a) (b : Int) (u : Tok) (hu : A.units < cLine) : RcAt A s (.ref a) (.int b u) false := fun prog w E Q q => by
  obtain ⟨o, h1, h2⟩ := id h
  exact rc_eq_decline_or (k := false) h.ty (typeIs_int s b u) (by decide) F.sub_int_dict F.slot_dict_eq F.slot_int_eq_refl
    (fun _ hq => dictEq_no h.ty (typeIs_int s b u) F.sub_int_dict hq F.slot_dict_eq)
    (fun _ hq => call_meets F.slot_int_eq_refl (typeIs_int s b u) F.entry_int_eq (F.args_int_eq_2 _ _) (intEqI_no b u a o h2) ⟨h1, hq⟩)
    (fun _ hq => wpAny_of_eq (rfl : isSame (.ref a) (.int b u) = pure false) hq) (.inr hu) q
theorem RcAt.int_dict {a : Addr} (h : DAt s a) (b : Int) (u : Tok) (hu : A.units < cLine) : RcAt A s (.int b u) (.ref a) false := fun prog w E Q q => by
  obtain ⟨o, h1, h2⟩ := id h
  exact rc_eq_decline_or (k := false) (typeIs_int s b u) h.ty (by decide) F.sub_dict_int F.slot_int_eq F.slot_dict_eq_refl
    (fun _ hq => call_meets F.slot_int_eq (typeIs_int s b u) F.entry_int_eq (F.args_int_eq_2 _ _) (intEqI_no b u a o h2) ⟨h1, hq⟩)
    (fun _ hq => dictEq_no h.ty (typeIs_int s b u) F.sub_int_dict hq F.slot_dict_eq_refl)
    (fun _ hq => wpAny_of_eq (rfl : isSame (.int b u) (.ref a) = pure false) hq) (.inr hu) q
theorem RcAt.dict_str {a : Addr} (h : DAt s a) (b : Str) (u : Tok) (hu : A.units < cLine) : RcAt A s (.ref a) (.str b u) false := fun prog w E Q q => by
  obtain ⟨o, h1, h2⟩ := id h
  exact rc_eq_decline_or (k := false) h.ty (typeIs_str s b u) (by decide) F.sub_str_dict F.slot_dict_eq F.slot_str_eq_refl
    (fun _ hq => dictEq_no h.ty (typeIs_str s b u) F.sub_str_dict hq F.slot_dict_eq)
    (fun _ hq => call_meets F.slot_str_eq_refl (typeIs_str s b u) F.entry_str_eq (F.args_str_eq_2 _ _) (strEq_no b u a o h2) ⟨h1, hq⟩)
    (fun _ hq => wpAny_of_eq (rfl : isSame (.ref a) (.str b u) = pure false) hq) (.inr hu) q
theorem RcAt.str_dict {a : Addr} (h : DAt s a) (b : Str) (u : Tok) (hu : A.units < cLine) : RcAt A s (.str b u) (.ref a) false := fun prog w E Q q => by
  obtain ⟨o, h1, h2⟩ := id h
  exact rc_eq_decline_or (k := false) (typeIs_str s b u) h.ty (by decide) F.sub_dict_str F.slot_str_eq F.slot_dict_eq_refl
    (fun _ hq => call_meets F.slot_str_eq (typeIs_str s b u) F.entry_str_eq (F.args_str_eq_2 _ _) (strEq_no b u a o h2) ⟨h1, hq⟩)
    (fun _ hq => dictEq_no h.ty (typeIs_str s b u) F.sub_str_dict hq F.slot_dict_eq_refl)
    (fun _ hq => wpAny_of_eq (rfl : isSame (.str b u) (.ref a) = pure false) hq) (.inr hu) q
theorem RcAt.dict_list {a l : Addr} {items : Array Value} (h : DAt s a) (hl : s.heap.IsList l items) (hu : A.units < cLine) : RcAt A s (.ref a) (.ref l) false := fun prog w E Q q => by
  have hne := h.ne_list hl
  obtain ⟨o, h1, h2⟩ := id h
  obtain ⟨⟨cls, dd, data, sl⟩, ho, hc, n, hd⟩ := id hl
  simp only at hc hd
  subst hc hd
  exact rc_eq_decline_or (k := false) h.ty ⟨_, ho, rfl⟩ (by decide) F.sub_list_dict F.slot_dict_eq F.slot_list_eq_refl
    (fun _ hq => dictEq_no h.ty (T := "list") ⟨_, ho, rfl⟩ F.sub_list_dict hq F.slot_dict_eq)
    (fun _ hq => call_meets F.slot_list_eq_refl ⟨_, ho, rfl⟩ F.entry_list_eq (F.args_list_eq_2 _ _) (listEq_no l a items n dd sl o h2) ⟨ho, h1, hq⟩)
    (fun _ hq => wpAny_isSame_ref_other hne h1 ho (by obtain ⟨z, _⟩ := h2; simp [z]) hq) (.inr hu) q
theorem RcAt.list_dict {a l : Addr} {items : Array Value} (h : DAt s a) (hl : s.heap.IsList l items) (hu : A.units < cLine) : RcAt A s (.ref l) (.ref a) false := fun prog w E Q q => by
  have hne := h.ne_list hl
  obtain ⟨o, h1, h2⟩ := id h
  obtain ⟨⟨cls, dd, data, sl⟩, ho, hc, n, hd⟩ := id hl
  simp only at hc hd
  subst hc hd
  exact rc_eq_decline_or (k := false) ⟨_, ho, rfl⟩ h.ty (by decide) F.sub_dict_list F.slot_list_eq F.slot_dict_eq_refl
    (fun _ hq => call_meets F.slot_list_eq ⟨_, ho, rfl⟩ F.entry_list_eq (F.args_list_eq_2 _ _) (listEq_no l a items n dd sl o h2) ⟨ho, h1, hq⟩)
    (fun _ hq => dictEq_no h.ty (T := "list") ⟨_, ho, rfl⟩ F.sub_list_dict hq F.slot_dict_eq_refl)
    (fun _ hq => wpAny_isSame_ref_other hne.symm ho h1 (by simp) hq) (.inr hu) q
theorem RcAt.dict_tuple {a l : Addr} {items : Array Value} (h : DAt s a) (hl : s.heap.IsTuple l items) (hu : A.units < cLine) : RcAt A s (.ref a) (.ref l) false := fun prog w E Q q => by
  have hne := h.ne_tup hl
  obtain ⟨o, h1, h2⟩ := id h
  obtain ⟨⟨cls, dd, data, sl⟩, ho, hc, n, hd⟩ := id hl
  simp only at hc hd
  subst hc hd
  exact rc_eq_decline_or (k := false) h.ty ⟨_, ho, rfl⟩ (by decide) F.sub_tuple_dict F.slot_dict_eq F.slot_tuple_eq_refl
    (fun _ hq => dictEq_no h.ty (T := "tuple") ⟨_, ho, rfl⟩ F.sub_tuple_dict hq F.slot_dict_eq)
    (fun _ hq => call_meets F.slot_tuple_eq_refl ⟨_, ho, rfl⟩ F.entry_tuple_eq (F.args_tuple_eq_2 _ _) (tupEq_no l a items n dd sl o h2) ⟨ho, h1, hq⟩)
    (fun _ hq => wpAny_isSame_ref_other hne h1 ho (by obtain ⟨z, _⟩ := h2; simp [z]) hq) (.inr hu) q
theorem RcAt.tuple_dict {a l : Addr} {items : Array Value} (h : DAt s a) (hl : s.heap.IsTuple l items) (hu : A.units < cLine) : RcAt A s (.ref l) (.ref a) false := fun prog w E Q q => by
  have hne := h.ne_tup hl
  obtain ⟨o, h1, h2⟩ := id h
  obtain ⟨⟨cls, dd, data, sl⟩, ho, hc, n, hd⟩ := id hl
  simp only at hc hd
  subst hc hd
  exact rc_eq_decline_or (k := false) ⟨_, ho, rfl⟩ h.ty (by decide) F.sub_dict_tuple F.slot_tuple_eq F.slot_dict_eq_refl
    (fun _ hq => call_meets F.slot_tuple_eq ⟨_, ho, rfl⟩ F.entry_tuple_eq (F.args_tuple_eq_2 _ _) (tupEq_no l a items n dd sl o h2) ⟨ho, h1, hq⟩)
    (fun _ hq => dictEq_no h.ty (T := "tuple") ⟨_, ho, rfl⟩ F.sub_tuple_dict hq F.slot_dict_eq_refl)
    (fun _ hq => wpAny_isSame_ref_other' hne.symm ho h1 (by obtain ⟨z, _⟩ := h2; simp [z]) hq) (.inr hu) q
theorem eqAt_l {a : Addr} {y : Value} {k : Bool} (hne : ((.ref a : Value) == y) = false) (h : RcAt A s (.ref a) y k) : EqAt A s (.ref a) y k := fun prog w E Q hq => by
  unfold eqBool
  refine wpAny_holding ?_
  refine wpAny_ite_split (fun hab => by rw [hne] at hab; cases hab) (fun _ => ?_)
  exact wpAny_bind (h prog w E _ (wpAny_truthy_bool hq))
theorem eqAt_r {a : Addr} {y : Value} {k : Bool} (hne : (y == (.ref a : Value)) = false) (h : RcAt A s y (.ref a) k) : EqAt A s y (.ref a) k := fun prog w E Q hq => by
  unfold eqBool
  refine wpAny_holding ?_
  refine wpAny_ite_split (fun hab => by rw [hne] at hab; cases hab) (fun _ => ?_)
  cases y <;> exact wpAny_bind (h prog w E _ (wpAny_truthy_bool hq))
end

/-! ### what may be compared -/
mutual
def eqOk : D → D → Bool
  | .dict _, .dict _ => false
  | .list xs, .list ys => eqOks xs ys
  | .tuple xs, .tuple ys => eqOks xs ys
  | _, _ => true
def eqOks : List D → List D → Bool
  | x :: xs, y :: ys => eqOk x y && eqOks xs ys
  | _, _ => true
end
section
variable {X : Cx} {pins : List (Addr × Obj)} {σ : L2.St} {H : Hp} {s : Shared}
theorem dat_of (I : Inv X pins σ H s) {a : Addr} {kvs : List (Key × V)} (h : H a = some (.dK kvs)) : DAt s a := by
  obtain ⟨_, ya, va, ra, o, es, ep, h1, h2, h3, _⟩ := (show ObjOk X.prog X.w H s.heap a (.dK kvs) from I.hok a _ h)
  exact ⟨o, h1, h2.1, es, ep, h3⟩
mutual
/-- one thing read twice -/
theorem same_eq (I : Inv X pins σ H s) : ∀ (d e : D) (v : V), Rp X.K H v d → Rp X.K H v e → eqOk d e = true → PyData.eqv d e = true
  | .none, _, _, r, q, _ => by cases r; cases q; rfl
  | .bool b, _, _, r, q, _ => by cases r; cases q; simp [PyData.eqv]
  | .int i, _, _, r, q, _ => by cases r; cases q; simp [PyData.eqv]
  | .str x, _, _, r, q, _ => by cases r; cases q; simp [PyData.eqv]
  | .list xs, e, _, r, q, h => by
    cases r with
    | lst r1 r2 =>
      obtain ⟨i1, n1, u1, _, _, z1⟩ := r1.at I
      cases q with
      | lst q1 q2 =>
        cases I.list_inj r1.sq q1.sq
        simp only [PyData.eqv]
        exact same_eqs I _ _ _ r2 q2 (by simpa [eqOk] using h)
      | tup q1 q2 =>
        obtain ⟨i2, u2, ⟨o, k1, k2, _⟩, _⟩ := I.tuple q1
        rw [z1] at k1; cases k1
        exact absurd k2 (by simp)
      | dct q1 q2 =>
        obtain ⟨o, k1, k2, _⟩ := dat_of I q1
        rw [z1] at k1; cases k1
        exact absurd k2 (by simp)
  | .tuple xs, e, _, r, q, h => by
    cases r with
    | tup r1 r2 =>
      obtain ⟨i1, u1, ⟨o, k1, k2, _⟩, _⟩ := I.tuple r1
      cases q with
      | tup q1 q2 =>
        cases I.tuple_inj r1 q1
        simp only [PyData.eqv]
        exact same_eqs I _ _ _ r2 q2 (by simpa [eqOk] using h)
      | lst q1 q2 =>
        obtain ⟨i1, n1, u1, _, _, z1⟩ := q1.at I
        rw [z1] at k1; cases k1
        exact absurd k2 (by simp)
      | dct q1 q2 =>
        obtain ⟨o, k1', k2', _⟩ := dat_of I q1
        rw [k1] at k1'; cases k1'
        rw [k2] at k2'
        exact absurd k2' (by simp)
  | .dict xs, e, _, r, q, h => by
    cases r with
    | dct r1 r2 =>
      obtain ⟨o, k1, k2, _⟩ := dat_of I r1
      cases q with
      | dct q1 q2 => simp [eqOk] at h
      | lst q1 q2 =>
        obtain ⟨i1, n1, u1, _, _, z1⟩ := q1.at I
        rw [z1] at k1; cases k1
        exact absurd k2 (by simp)
      | tup q1 q2 =>
        obtain ⟨i1, u1, ⟨o, k1', k2', _⟩, _⟩ := I.tuple q1
        rw [k1] at k1'; cases k1'
        rw [k2] at k2'
        exact absurd k2' (by simp)
theorem same_eqs (I : Inv X pins σ H s) : ∀ (ds es : List D) (vs : List V), RpAll X.K H vs ds → RpAll X.K H vs es → eqOks ds es = true → PyData.eqvAll ds es = true
  | [], _, _, r, q, _ => by cases r; cases q; rfl
  | d :: ds, _, _, r, q, h => by
    cases r with
    | cons r1 r2 =>
      cases q with
      | cons q1 q2 =>
        simp only [eqOks, Bool.and_eq_true] at h
        simp only [PyData.eqvAll, same_eq I _ _ _ r1 q1 h.1, same_eqs I _ _ _ r2 q2 h.2, Bool.and_self]
end
/-- items alike -/
def EqsAt (A : Around) (s : Shared) (us ws : List Value) (ds es : List D) : Prop := ∀ j (h1 : j < us.length) (h2 : j < ws.length), EqAt A s us[j] ws[j] (pairEq ds es j)
mutual
theorem eq_rp (I : Inv X pins σ H s) : ∀ (d e : D) (A : Around) (v z : V) (a b : Value), Rp X.K H v d → Rp X.K H z e → RelV v a → RelV z b → eqOk d e = true → A.units + min d.depth e.depth < cLine → EqAt A s a b (PyData.eqv d e)
  | .none, _, A, _, _, _, _, r, q, ra, rb, h, hu => by
    cases r; cases ra
    cases q with
    | non => cases rb; exact EqAt.same _
    | bl y => cases rb; exact EqAt.none_bool y
    | int y => obtain ⟨u, rfl⟩ := rb; exact EqAt.none_int y u
    | str y => obtain ⟨u, rfl⟩ := rb; exact EqAt.none_str y u
    | lst q1 q2 => cases rb; obtain ⟨i1, n1, u1, _, _, z1⟩ := q1.at I; exact EqAt.none_list ⟨_, z1, rfl, _, rfl⟩ (room_here hu)
    | tup q1 q2 => cases rb; obtain ⟨i1, u1, k1, _⟩ := I.tuple q1; exact EqAt.none_tuple k1 (room_here hu)
    | dct q1 q2 => cases rb; exact eqAt_r rfl (RcAt.none_dict (dat_of I q1) (room_here hu))
  | .bool x, _, A, _, _, _, _, r, q, ra, rb, h, hu => by
    cases r; cases ra
    cases q with
    | non => cases rb; exact EqAt.bool_none x
    | bl y => cases rb; exact EqAt.bool_bool x y
    | int y => obtain ⟨u, rfl⟩ := rb; exact EqAt.bool_int x y u
    | str y => obtain ⟨u, rfl⟩ := rb; exact EqAt.bool_str x y u
    | lst q1 q2 => cases rb; obtain ⟨i1, n1, u1, _, _, z1⟩ := q1.at I; exact EqAt.bool_list x ⟨_, z1, rfl, _, rfl⟩ (room_here hu)
    | tup q1 q2 => cases rb; obtain ⟨i1, u1, k1, _⟩ := I.tuple q1; exact EqAt.bool_tuple x k1 (room_here hu)
    | dct q1 q2 => cases rb; exact eqAt_r rfl (RcAt.bool_dict (dat_of I q1) x (room_here hu))
  | .int x, _, A, _, _, _, _, r, q, ra, rb, h, hu => by
    cases r; obtain ⟨t, rfl⟩ := ra
    cases q with
    | non => cases rb; exact EqAt.int_none x t
    | bl y => cases rb; exact EqAt.int_bool x t y
    | int y => obtain ⟨u, rfl⟩ := rb; exact EqAt.int_int x t y u
    | str y => obtain ⟨u, rfl⟩ := rb; exact EqAt.int_str x t y u
    | lst q1 q2 => cases rb; obtain ⟨i1, n1, u1, _, _, z1⟩ := q1.at I; exact EqAt.int_list x t ⟨_, z1, rfl, _, rfl⟩ (room_here hu)
    | tup q1 q2 => cases rb; obtain ⟨i1, u1, k1, _⟩ := I.tuple q1; exact EqAt.int_tuple x t k1 (room_here hu)
    | dct q1 q2 => cases rb; exact eqAt_r rfl (RcAt.int_dict (dat_of I q1) x t (room_here hu))
  | .str x, _, A, _, _, _, _, r, q, ra, rb, h, hu => by
    cases r; obtain ⟨t, rfl⟩ := ra
    cases q with
    | non => cases rb; exact EqAt.str_none x t
    | bl y => cases rb; exact EqAt.str_bool x t y
    | int y => obtain ⟨u, rfl⟩ := rb; exact EqAt.str_int x t y u
    | str y => obtain ⟨u, rfl⟩ := rb; exact EqAt.str_str x t y u
    | lst q1 q2 => cases rb; obtain ⟨i1, n1, u1, _, _, z1⟩ := q1.at I; exact EqAt.str_list x t ⟨_, z1, rfl, _, rfl⟩ (room_here hu)
    | tup q1 q2 => cases rb; obtain ⟨i1, u1, k1, _⟩ := I.tuple q1; exact EqAt.str_tuple x t k1 (room_here hu)
    | dct q1 q2 => cases rb; exact eqAt_r rfl (RcAt.str_dict (dat_of I q1) x t (room_here hu))
  | .list xs, e, A, _, _, _, _, r, q, ra, rb, h, hu => by
    cases id r with
    | @lst l vs _ r1 r2 =>
      cases ra
      obtain ⟨i1, n1, u1, l1, _, z1⟩ := r1.at I
      have hl : s.heap.IsList l i1.toArray := ⟨_, z1, rfl, _, rfl⟩
      cases id q with
      | non => cases rb; exact EqAt.list_none hl (room_here hu)
      | bl y => cases rb; exact EqAt.list_bool y hl (room_here hu)
      | int y => obtain ⟨u, rfl⟩ := rb; exact EqAt.list_int y u hl (room_here hu)
      | str y => obtain ⟨u, rfl⟩ := rb; exact EqAt.list_str y u hl (room_here hu)
      | tup q1 q2 => cases rb; obtain ⟨i2, u2, k2, _⟩ := I.tuple q1; exact EqAt.list_tuple hl k2 (room_here hu)
      | dct q1 q2 =>
        cases rb
        have d := dat_of I q1
        exact eqAt_l (by simpa using (d.ne_list hl).symm) (RcAt.list_dict d hl (room_here hu))
      | @lst l' ws ys q1 q2 =>
        cases rb
        obtain ⟨i2, n2, u2, l2, _, z2⟩ := q1.at I
        have hl' : s.heap.IsList l' i2.toArray := ⟨_, z2, rfl, _, rfl⟩
        have m1 : i1.length = xs.length := l1.symm.trans r2.length
        have m2 : i2.length = ys.length := l2.symm.trans q2.length
        show EqAt A s (.ref l) (.ref l') (PyData.eqvAll xs ys)
        by_cases hll : l = l'
        · subst hll
          have e := same_eq I _ _ _ r q h
          simp only [PyData.eqv] at e
          rw [e]
          exact EqAt.same _
        · by_cases hsz : xs.length = ys.length
          · rw [← eqvAll_same_length hsz, ← m1]
            refine EqAt.of_refs hll (RcAt.lists hl hl' (by simp [m1, m2, hsz]) (room_here hu) fun j j1 j2 => ?_)
            have := eq_rps I xs ys A.in1 _ _ i1 i2 r2 q2 u1 u2 (by simpa [eqOk] using h) (room_in hu) j (by simpa using j1) (by simpa using j2)
            simpa using this
          · rw [eqvAll_other_length hsz]
            exact EqAt.of_refs hll (RcAt.lists_lengths hl hl' (by simp [m1, m2, hsz]) (room_here hu))
  | .tuple xs, e, A, _, _, _, _, r, q, ra, rb, h, hu => by
    cases id r with
    | @tup l vs _ r1 r2 =>
      cases ra
      obtain ⟨i1, u1, hl, _⟩ := I.tuple r1
      cases id q with
      | non => cases rb; exact EqAt.tuple_none hl (room_here hu)
      | bl y => cases rb; exact EqAt.tuple_bool y hl (room_here hu)
      | int y => obtain ⟨u, rfl⟩ := rb; exact EqAt.tuple_int y u hl (room_here hu)
      | str y => obtain ⟨u, rfl⟩ := rb; exact EqAt.tuple_str y u hl (room_here hu)
      | lst q1 q2 => cases rb; obtain ⟨i2, n2, u2, l2, _, z2⟩ := q1.at I; exact EqAt.tuple_list hl ⟨_, z2, rfl, _, rfl⟩ (room_here hu)
      | dct q1 q2 =>
        cases rb
        have d := dat_of I q1
        exact eqAt_l (by simpa using (d.ne_tup hl).symm) (RcAt.tuple_dict d hl (room_here hu))
      | @tup l' ws ys q1 q2 =>
        cases rb
        obtain ⟨i2, u2, hl', _⟩ := I.tuple q1
        have m1 : i1.length = xs.length := u1.length.symm.trans r2.length
        have m2 : i2.length = ys.length := u2.length.symm.trans q2.length
        show EqAt A s (.ref l) (.ref l') (PyData.eqvAll xs ys)
        by_cases hll : l = l'
        · subst hll
          have e := same_eq I _ _ _ r q h
          simp only [PyData.eqv] at e
          rw [e]
          exact EqAt.same _
        · rw [← eqvAll_eq xs ys, ← m1, ← m2]
          refine EqAt.of_refs hll (RcAt.tuples (items := i1.toArray) (items2 := i2.toArray) hl hl' (room_here hu) fun j j1 j2 => ?_)
          have := eq_rps I xs ys A.in1 _ _ i1 i2 r2 q2 u1 u2 (by simpa [eqOk] using h) (room_in hu) j (by simpa using j1) (by simpa using j2)
          simpa using this
  | .dict xs, e, A, _, _, _, _, r, q, ra, rb, h, hu => by
    cases r with
    | dct r1 r2 =>
      cases ra
      have d := dat_of I r1
      cases q with
      | non => cases rb; exact eqAt_l rfl (RcAt.dict_none d (room_here hu))
      | bl y => cases rb; exact eqAt_l rfl (RcAt.dict_bool d y (room_here hu))
      | int y => obtain ⟨u, rfl⟩ := rb; exact eqAt_l rfl (RcAt.dict_int d y u (room_here hu))
      | str y => obtain ⟨u, rfl⟩ := rb; exact eqAt_l rfl (RcAt.dict_str d y u (room_here hu))
      | lst q1 q2 =>
        cases rb
        obtain ⟨i2, n2, u2, l2, _, z2⟩ := q1.at I
        have hl' : s.heap.IsList _ i2.toArray := ⟨_, z2, rfl, _, rfl⟩
        exact eqAt_l (by simpa using d.ne_list hl') (RcAt.dict_list d hl' (room_here hu))
      | tup q1 q2 =>
        cases rb
        obtain ⟨i2, u2, hl', _⟩ := I.tuple q1
        exact eqAt_l (by simpa using d.ne_tup hl') (RcAt.dict_tuple d hl' (room_here hu))
      | dct q1 q2 => simp [eqOk] at h
theorem eq_rps (I : Inv X pins σ H s) : ∀ (ds es : List D) (A : Around) (vs zs : List V) (us ws : List Value), RpAll X.K H vs ds → RpAll X.K H zs es → Vals vs us → Vals zs ws → eqOks ds es = true →
    A.units + min (PyData.depthAll ds) (PyData.depthAll es) < cLine → ∀ j (h1 : j < us.length) (h2 : j < ws.length), EqAt A s us[j] ws[j] (pairEq ds es j)
  | [], _, _, _, _, _, _, r, _, ra, _, _, _, j, h1, _ => by cases r; cases ra; exact absurd h1 (Nat.not_lt_zero _)
  | _ :: _, [], _, _, _, _, _, _, q, _, rb, _, _, j, _, h2 => by cases q; cases rb; exact absurd h2 (Nat.not_lt_zero _)
  | d :: ds, e :: es, A, _, _, _, _, r, q, ra, rb, h, hu, j, h1, h2 => by
    simp only [eqOks, Bool.and_eq_true] at h
    cases r with
    | cons r1 r2 =>
      cases q with
      | cons q1 q2 =>
        cases ra with
        | cons a1 a2 =>
          cases rb with
          | cons b1 b2 =>
            cases j with
            | zero => exact eq_rp I d e A _ _ _ _ r1 q1 a1 b1 h.1 (room_head hu)
            | succ j => exact eq_rps I ds es A _ _ _ _ r2 q2 a2 b2 h.2 (room_tail hu) j (Nat.lt_of_succ_lt_succ h1) (Nat.lt_of_succ_lt_succ h2)
end
end

section
variable {X : Cx} {pins : List (Addr × Obj)} {σ : L2.St} {H : Hp} {s : Shared}
theorem dep_r {d e : D} {u k : Nat} (h : e.depth ≤ k) (hu : u + k < cLine) : u + min d.depth e.depth < cLine := by have := Nat.min_le_right d.depth e.depth; omega
/-- a == b -/
theorem rc_rp (I : Inv X pins σ H s) (d e : D) (A : Around) (v z : V) (a b : Value) (r : Rp X.K H v d) (q : Rp X.K H z e) (ra : RelV v a) (rb : RelV z b) (h : eqOk d e = true) (hu : A.units + min d.depth e.depth < cLine) : RcAt A s a b (PyData.eqv d e) := by
  cases r with
  | non =>
    cases ra
    cases q with
    | non => cases rb; exact RcAt.none_none
    | bl y => cases rb; exact RcAt.none_bool y
    | int y => obtain ⟨u, rfl⟩ := rb; exact RcAt.none_int y u
    | str y => obtain ⟨u, rfl⟩ := rb; exact RcAt.none_str y u
    | lst q1 q2 => cases rb; obtain ⟨i1, n1, u1, _, _, z1⟩ := q1.at I; exact RcAt.none_list ⟨_, z1, rfl, _, rfl⟩ (room_here hu)
    | tup q1 q2 => cases rb; obtain ⟨i1, u1, k1, _⟩ := I.tuple q1; exact RcAt.none_tuple k1 (room_here hu)
    | dct q1 q2 => cases rb; exact RcAt.none_dict (dat_of I q1) (room_here hu)
  | bl x =>
    cases ra
    cases q with
    | non => cases rb; exact RcAt.bool_none x
    | bl y => cases rb; exact RcAt.bool_bool x y
    | int y => obtain ⟨u, rfl⟩ := rb; exact RcAt.bool_int x y u
    | str y => obtain ⟨u, rfl⟩ := rb; exact RcAt.bool_str x y u
    | lst q1 q2 => cases rb; obtain ⟨i1, n1, u1, _, _, z1⟩ := q1.at I; exact RcAt.bool_list x ⟨_, z1, rfl, _, rfl⟩ (room_here hu)
    | tup q1 q2 => cases rb; obtain ⟨i1, u1, k1, _⟩ := I.tuple q1; exact RcAt.bool_tuple x k1 (room_here hu)
    | dct q1 q2 => cases rb; exact RcAt.bool_dict (dat_of I q1) x (room_here hu)
  | int x =>
    obtain ⟨t, rfl⟩ := ra
    cases q with
    | non => cases rb; exact RcAt.int_none x t
    | bl y => cases rb; exact RcAt.int_bool x t y
    | int y => obtain ⟨u, rfl⟩ := rb; exact RcAt.int_int x t y u
    | str y => obtain ⟨u, rfl⟩ := rb; exact RcAt.int_str x t y u
    | lst q1 q2 => cases rb; obtain ⟨i1, n1, u1, _, _, z1⟩ := q1.at I; exact RcAt.int_list x t ⟨_, z1, rfl, _, rfl⟩ (room_here hu)
    | tup q1 q2 => cases rb; obtain ⟨i1, u1, k1, _⟩ := I.tuple q1; exact RcAt.int_tuple x t k1 (room_here hu)
    | dct q1 q2 => cases rb; exact RcAt.int_dict (dat_of I q1) x t (room_here hu)
  | str x =>
    obtain ⟨t, rfl⟩ := ra
    cases q with
    | non => cases rb; exact RcAt.str_none x t
    | bl y => cases rb; exact RcAt.str_bool x t y
    | int y => obtain ⟨u, rfl⟩ := rb; exact RcAt.str_int x t y u
    | str y => obtain ⟨u, rfl⟩ := rb; exact RcAt.str_str x t y u
    | lst q1 q2 => cases rb; obtain ⟨i1, n1, u1, _, _, z1⟩ := q1.at I; exact RcAt.str_list x t ⟨_, z1, rfl, _, rfl⟩ (room_here hu)
    | tup q1 q2 => cases rb; obtain ⟨i1, u1, k1, _⟩ := I.tuple q1; exact RcAt.str_tuple x t k1 (room_here hu)
    | dct q1 q2 => cases rb; exact RcAt.str_dict (dat_of I q1) x t (room_here hu)
  | @lst l vs xs r1 r2 =>
    cases ra
    obtain ⟨i1, n1, u1, l1, _, z1⟩ := r1.at I
    have hl : s.heap.IsList l i1.toArray := ⟨_, z1, rfl, _, rfl⟩
    cases q with
    | non => cases rb; exact RcAt.list_none hl (room_here hu)
    | bl y => cases rb; exact RcAt.list_bool y hl (room_here hu)
    | int y => obtain ⟨u, rfl⟩ := rb; exact RcAt.list_int y u hl (room_here hu)
    | str y => obtain ⟨u, rfl⟩ := rb; exact RcAt.list_str y u hl (room_here hu)
    | tup q1 q2 => cases rb; obtain ⟨i2, u2, k2, _⟩ := I.tuple q1; exact RcAt.list_tuple hl k2 (room_here hu)
    | dct q1 q2 => cases rb; exact RcAt.list_dict (dat_of I q1) hl (room_here hu)
    | @lst l' ws ys q1 q2 =>
      cases rb
      obtain ⟨i2, n2, u2, l2, _, z2⟩ := q1.at I
      have hl' : s.heap.IsList l' i2.toArray := ⟨_, z2, rfl, _, rfl⟩
      have m1 : i1.length = xs.length := l1.symm.trans r2.length
      have m2 : i2.length = ys.length := l2.symm.trans q2.length
      show RcAt A s (.ref l) (.ref l') (PyData.eqvAll xs ys)
      by_cases hsz : xs.length = ys.length
      · rw [← eqvAll_same_length hsz, ← m1]
        refine RcAt.lists hl hl' (by simp [m1, m2, hsz]) (room_here hu) fun j j1 j2 => ?_
        have := eq_rps I xs ys A.in1 _ _ i1 i2 r2 q2 u1 u2 (by simpa [eqOk] using h) (room_in hu) j (by simpa using j1) (by simpa using j2)
        simpa using this
      · rw [eqvAll_other_length hsz]
        exact RcAt.lists_lengths hl hl' (by simp [m1, m2, hsz]) (room_here hu)
  | @tup l vs xs r1 r2 =>
    cases ra
    obtain ⟨i1, u1, hl, _⟩ := I.tuple r1
    cases q with
    | non => cases rb; exact RcAt.tuple_none hl (room_here hu)
    | bl y => cases rb; exact RcAt.tuple_bool y hl (room_here hu)
    | int y => obtain ⟨u, rfl⟩ := rb; exact RcAt.tuple_int y u hl (room_here hu)
    | str y => obtain ⟨u, rfl⟩ := rb; exact RcAt.tuple_str y u hl (room_here hu)
    | lst q1 q2 => cases rb; obtain ⟨i2, n2, u2, l2, _, z2⟩ := q1.at I; exact RcAt.tuple_list hl ⟨_, z2, rfl, _, rfl⟩ (room_here hu)
    | dct q1 q2 => cases rb; exact RcAt.tuple_dict (dat_of I q1) hl (room_here hu)
    | @tup l' ws ys q1 q2 =>
      cases rb
      obtain ⟨i2, u2, hl', _⟩ := I.tuple q1
      have m1 : i1.length = xs.length := u1.length.symm.trans r2.length
      have m2 : i2.length = ys.length := u2.length.symm.trans q2.length
      show RcAt A s (.ref l) (.ref l') (PyData.eqvAll xs ys)
      rw [← eqvAll_eq xs ys, ← m1, ← m2]
      refine RcAt.tuples (items := i1.toArray) (items2 := i2.toArray) hl hl' (room_here hu) fun j j1 j2 => ?_
      have := eq_rps I xs ys A.in1 _ _ i1 i2 r2 q2 u1 u2 (by simpa [eqOk] using h) (room_in hu) j (by simpa using j1) (by simpa using j2)
      simpa using this
  | dct r1 r2 =>
    cases ra
    have d := dat_of I r1
    cases q with
    | non => cases rb; exact RcAt.dict_none d (room_here hu)
    | bl y => cases rb; exact RcAt.dict_bool d y (room_here hu)
    | int y => obtain ⟨u, rfl⟩ := rb; exact RcAt.dict_int d y u (room_here hu)
    | str y => obtain ⟨u, rfl⟩ := rb; exact RcAt.dict_str d y u (room_here hu)
    | lst q1 q2 => cases rb; obtain ⟨i2, n2, u2, l2, _, z2⟩ := q1.at I; exact RcAt.dict_list d ⟨_, z2, rfl, _, rfl⟩ (room_here hu)
    | tup q1 q2 => cases rb; obtain ⟨i2, u2, hl', _⟩ := I.tuple q1; exact RcAt.dict_tuple d hl' (room_here hu)
    | dct q1 q2 => simp [eqOk] at h
def isSq : D → Bool
  | .list _ => true
  | .tuple _ => true
  | _ => false
/-- a != b, both lists or tuples -/
theorem rn_rp (I : Inv X pins σ H s) (d e : D) (A : Around) (v z : V) (a b : Value) (hd : isSq d = true) (he : isSq e = true) (r : Rp X.K H v d) (q : Rp X.K H z e) (ra : RelV v a) (rb : RelV z b) (h : eqOk d e = true) (hu : A.units + min d.depth e.depth < cLine) : RcNeAt A s a b (!PyData.eqv d e) := by
  cases r with
  | @lst l vs xs r1 r2 =>
    cases ra
    obtain ⟨i1, n1, u1, l1, _, z1⟩ := r1.at I
    have hl : s.heap.IsList l i1.toArray := ⟨_, z1, rfl, _, rfl⟩
    cases q with
    | tup q1 q2 => cases rb; obtain ⟨i2, u2, k2, _⟩ := I.tuple q1; exact RcNeAt.list_tuple hl k2 (room_here hu)
    | @lst l' ws ys q1 q2 =>
      cases rb
      obtain ⟨i2, n2, u2, l2, _, z2⟩ := q1.at I
      have hl' : s.heap.IsList l' i2.toArray := ⟨_, z2, rfl, _, rfl⟩
      have m1 : i1.length = xs.length := l1.symm.trans r2.length
      have m2 : i2.length = ys.length := l2.symm.trans q2.length
      show RcNeAt A s (.ref l) (.ref l') (!PyData.eqvAll xs ys)
      by_cases hsz : xs.length = ys.length
      · rw [← eqvAll_same_length hsz, ← m1]
        refine RcNeAt.lists hl hl' (by simp [m1, m2, hsz]) (room_here hu) fun j j1 j2 => ?_
        have := eq_rps I xs ys A.in1 _ _ i1 i2 r2 q2 u1 u2 (by simpa [eqOk] using h) (room_in hu) j (by simpa using j1) (by simpa using j2)
        simpa using this
      · rw [eqvAll_other_length hsz]
        exact RcNeAt.lists_lengths hl hl' (by simp [m1, m2, hsz]) (room_here hu)
    | _ => cases he
  | @tup l vs xs r1 r2 =>
    cases ra
    obtain ⟨i1, u1, hl, _⟩ := I.tuple r1
    cases q with
    | lst q1 q2 => cases rb; obtain ⟨i2, n2, u2, l2, _, z2⟩ := q1.at I; exact RcNeAt.tuple_list hl ⟨_, z2, rfl, _, rfl⟩ (room_here hu)
    | @tup l' ws ys q1 q2 =>
      cases rb
      obtain ⟨i2, u2, hl', _⟩ := I.tuple q1
      have m1 : i1.length = xs.length := u1.length.symm.trans r2.length
      have m2 : i2.length = ys.length := u2.length.symm.trans q2.length
      show RcNeAt A s (.ref l) (.ref l') (!PyData.eqvAll xs ys)
      rw [← eqvAll_eq xs ys, ← m1, ← m2]
      refine RcNeAt.tuples (items := i1.toArray) (items2 := i2.toArray) hl hl' (room_here hu) fun j j1 j2 => ?_
      have := eq_rps I xs ys A.in1 _ _ i1 i2 r2 q2 u1 u2 (by simpa [eqOk] using h) (room_in hu) j (by simpa using j1) (by simpa using j2)
      simpa using this
    | _ => cases he
  | _ => cases hd
def eqD (d e : D) : Bool := eqOk d e && decide (e.depth ≤ 64)
def neD (d e : D) : Bool := eqD d e && isSq d && isSq e
def inD (d : D) (es : List D) : Bool := (es.all fun z => eqOk z d) && decide (d.depth ≤ 64)
theorem op_eqR (hu : X.A.units + 65 < cLine) {K : Frg} {x y : V} {d e : D} {H : Hp} {v u : Value} {Q : VK} (hK : X.K = K) (I : Inv X pins σ H s) (rx : RelV x v) (ry : RelV y u) (r : Rp K H x d) (q : Rp K H y e) (h : eqD d e = true) (k : Q (.bl (PyData.eqv d e)) H) :
    wpAny (model X.prog X.w) X.A (compareOp .Eq v u) (EP X pins σ Q) X.xe s := by
  subst hK
  simp only [eqD, Bool.and_eq_true, decide_eq_true_eq] at h
  exact rc_rp I d e X.A x y v u r q rx ry h.1 (dep_r h.2 (by omega)) X.prog X.w X.xe _ ⟨.bl _, H, I, rfl, k⟩
theorem op_neR (hu : X.A.units + 65 < cLine) {K : Frg} {x y : V} {d e : D} {H : Hp} {v u : Value} {Q : VK} (hK : X.K = K) (I : Inv X pins σ H s) (rx : RelV x v) (ry : RelV y u) (r : Rp K H x d) (q : Rp K H y e) (h : neD d e = true) (k : Q (.bl (!PyData.eqv d e)) H) :
    wpAny (model X.prog X.w) X.A (compareOp .NotEq v u) (EP X pins σ Q) X.xe s := by
  subst hK
  simp only [neD, eqD, Bool.and_eq_true, decide_eq_true_eq] at h
  exact rn_rp I d e X.A x y v u h.1.2 h.2 r q rx ry h.1.1.1 (dep_r h.1.1.2 (by omega)) X.prog X.w X.xe _ ⟨.bl _, H, I, rfl, k⟩
/-- x in a row -/
theorem in_items (I : Inv X pins σ H s) {A : Around} {vs : List V} {es : List D} {us : List Value} {z : V} {b : Value} {d : D} (r : RpAll X.K H vs es) (ra : Vals vs us) (q : Rp X.K H z d) (rb : RelV z b) (h : inD d es = true) (hu : A.units + 64 < cLine) :
    ∃ e : Value → Bool, (∀ y, y ∈ us.toArray → EqAt A s y b (e y)) ∧ us.toArray.any e = es.any fun y => PyData.eqv y d := by
  classical
  simp only [inD, Bool.and_eq_true, decide_eq_true_eq, List.all_eq_true] at h
  have len : us.length = es.length := ra.length.symm.trans r.length
  have one : ∀ (k : Nat) (hk : k < us.length), EqAt A s us[k] b (PyData.eqv (es[k]'(by omega)) d) := by
    intro k hk
    have hv : k < vs.length := by rw [ra.length]; exact hk
    obtain ⟨d', h1, h2⟩ := r.get (i := k) (v := vs[k]) (by simp [hv])
    have h3 : es[k]'(by omega) = d' := by rw [List.getElem?_eq_getElem (by omega)] at h1; exact Option.some.inj h1
    obtain ⟨u', h4, h5⟩ := ra.get (i := k) (x := vs[k]) (by simp [hv])
    have h6 : us[k] = u' := by rw [List.getElem?_eq_getElem hk] at h4; exact Option.some.inj h4
    rw [h3, h6]
    exact eq_rp I d' d A _ _ _ _ h2 q h5 rb (h.1 _ (by rw [← h3]; exact List.getElem_mem _)) (dep_r h.2 hu)
  refine ⟨fun y => decide (∃ (k : Nat) (hk : k < us.length), us[k] = y ∧ PyData.eqv (es[k]'(by omega)) d = true), fun y hy => ?_, ?_⟩
  · by_cases hz : ∃ (k : Nat) (hk : k < us.length), us[k] = y ∧ PyData.eqv (es[k]'(by omega)) d = true
    · simp only [hz, decide_true]
      obtain ⟨k, hk, h1, h2⟩ := hz
      have := one k hk
      rw [h2, h1] at this
      exact this
    · simp only [hz, decide_false]
      obtain ⟨k, hk, h1⟩ := List.getElem_of_mem (show y ∈ us by simpa using hy)
      have := one k hk
      rw [h1] at this
      cases hb : PyData.eqv (es[k]'(by omega)) d with
      | false => rw [hb] at this; exact this
      | true => exact absurd ⟨k, hk, h1, hb⟩ hz
  · rw [Bool.eq_iff_iff, Array.any_eq_true, List.any_eq_true]
    constructor
    · rintro ⟨i, hi, z⟩
      rw [decide_eq_true_eq] at z
      obtain ⟨k, hk, h1, h2⟩ := z
      exact ⟨_, List.getElem_mem _, h2⟩
    · rintro ⟨y, hy, z⟩
      obtain ⟨k, hk, h1⟩ := List.getElem_of_mem hy
      refine ⟨k, by simp; omega, ?_⟩
      rw [decide_eq_true_eq]
      refine ⟨k, by omega, by simp, by rw [h1]; exact z⟩
theorem op_inR (hu : X.A.units + 65 < cLine) {K : Frg} {x y : V} {d : D} {es : List D} {H : Hp} {v u : Value} {Q : VK} (hK : X.K = K) (I : Inv X pins σ H s) (rx : RelV x v) (ry : RelV y u) (r : Rp K H x d) (q : Rp K H y (.list es) ∨ Rp K H y (.tuple es)) (h : inD d es = true) {hs : D → List D → Bool} (k : Q (.bl (hs d es)) H) (hh : hs = fun d es => es.any fun y => PyData.eqv y d) :
    wpAny (model X.prog X.w) X.A (compareOp .In v u) (EP X pins σ Q) X.xe s := by
  subst hK hh
  rcases q with q | q
  · cases q with
    | lst q1 q2 =>
      cases ry
      obtain ⟨i1, n1, u1, _, _, z1⟩ := q1.at I
      obtain ⟨e, h1, h2⟩ := in_items I (A := X.A.in1) q2 u1 r rx h (by show X.A.units + 1 + 64 < cLine; omega)
      exact in_listAt e ⟨_, z1, rfl, _, rfl⟩ h1 ⟨.bl _, H, I, by rw [h2]; rfl, k⟩
  · cases q with
    | tup q1 q2 =>
      cases ry
      obtain ⟨i1, u1, k1, _⟩ := I.tuple q1
      obtain ⟨e, h1, h2⟩ := in_items I (A := X.A.in1) q2 u1 r rx h (by show X.A.units + 1 + 64 < cLine; omega)
      exact in_tupleAt e k1 h1 ⟨.bl _, H, I, by rw [h2]; rfl, k⟩
theorem op_ninR (hu : X.A.units + 65 < cLine) {K : Frg} {x y : V} {d : D} {es : List D} {H : Hp} {v u : Value} {Q : VK} (hK : X.K = K) (I : Inv X pins σ H s) (rx : RelV x v) (ry : RelV y u) (r : Rp K H x d) (q : Rp K H y (.list es) ∨ Rp K H y (.tuple es)) (h : inD d es = true) {hs : D → List D → Bool} (k : Q (.bl (!hs d es)) H) (hh : hs = fun d es => es.any fun y => PyData.eqv y d) :
    wpAny (model X.prog X.w) X.A (compareOp .NotIn v u) (EP X pins σ Q) X.xe s := by
  subst hK hh
  rcases q with q | q
  · cases q with
    | lst q1 q2 =>
      cases ry
      obtain ⟨i1, n1, u1, _, _, z1⟩ := q1.at I
      obtain ⟨e, h1, h2⟩ := in_items I (A := X.A.in1) q2 u1 r rx h (by show X.A.units + 1 + 64 < cLine; omega)
      exact notIn_listAt e ⟨_, z1, rfl, _, rfl⟩ h1 ⟨.bl _, H, I, by rw [h2]; rfl, k⟩
  · cases q with
    | tup q1 q2 =>
      cases ry
      obtain ⟨i1, u1, k1, _⟩ := I.tuple q1
      obtain ⟨e, h1, h2⟩ := in_items I (A := X.A.in1) q2 u1 r rx h (by show X.A.units + 1 + 64 < cLine; omega)
      exact notIn_tupleAt e k1 h1 ⟨.bl _, H, I, by rw [h2]; rfl, k⟩
end
end PV
set_option Elab.async false
set_option linter.all false
set_option autoImplicit false
set_option maxRecDepth 100000
set_option maxHeartbeats 1000000
/-! PV: slices with a step. -/
namespace PV
open PySem PySem.Spec PyProof.Rows L2
/-- the places a slice with a step takes -/
def stepIx (n : Nat) (lo hi : Option Int) (st : Int) : List Nat :=
  (List.range (Builtin.Slice.slicePlaces (Builtin.Slice.sliceAdjust lo hi st n).1 (Builtin.Slice.sliceAdjust lo hi st n).2 st)).map fun (k : Nat) => ((Builtin.Slice.sliceAdjust lo hi st n).1 + (k : Int) * st).toNat
def stepX {α : Type} (xs : List α) (lo hi : Option Int) (st : Int) : List α := (stepIx xs.length lo hi st).filterMap (xs[·]?)
theorem bounds_adjust (lo hi : Option Int) (st : Int) (n : Nat) (h0 : st ≠ 0) : sliceBounds lo hi (some st) n = ((Builtin.Slice.sliceAdjust lo hi st n).1, (Builtin.Slice.sliceAdjust lo hi st n).2, st) := by
  unfold sliceBounds Builtin.Slice.sliceAdjust
  simp only [Option.getD_some]
  by_cases hp : st > 0
  · have hn : ¬ st < 0 := by omega
    simp only [hp, hn, if_true, if_false]
    refine Prod.ext ?_ (Prod.ext ?_ rfl)
    · cases lo with
      | none => rfl
      | some v => simp only; split <;> omega
    · cases hi with
      | none => rfl
      | some v => simp only; split <;> omega
  · have hn : st < 0 := by omega
    simp only [hp, hn, if_true, if_false]
    refine Prod.ext ?_ (Prod.ext ?_ rfl)
    · cases lo with
      | none => rfl
      | some v => simp only; split <;> omega
    · cases hi with
      | none => rfl
      | some v => simp only; split <;> omega
theorem range_places (a b st : Int) (h0 : st ≠ 0) : sliceRange a b st = (List.range (Builtin.Slice.slicePlaces a b st)).map fun (k : Nat) => (a + (k : Int) * st).toNat := by
  unfold sliceRange Builtin.Slice.slicePlaces
  have e1 : ∀ (d s : Int), 0 < s → (d + s - 1) / s = (d - 1) / s + 1 := fun d s h => by
    rw [show d + s - 1 = (d - 1) + s * 1 by omega, Int.add_mul_ediv_left _ _ (by omega)]
  have e : (if st > 0 then (if a < b then (b - a + st - 1) / st else 0) else (if a > b then (a - b - st - 1) / (-st) else 0)) = (if st > 0 then (if a < b then (b - a - 1) / st + 1 else 0) else (if a > b then (a - b - 1) / (-st) + 1 else 0)) := by
    split
    · split
      · exact e1 _ _ (by omega)
      · rfl
    · split
      · have := e1 (a - b) (-st) (by omega)
        rw [show a - b - st - 1 = a - b + -st - 1 by omega]
        exact this
      · rfl
  simp only [e]
  apply List.map_congr_left
  intro k _
  rw [Int.mul_comm]
theorem pick_step (its : List Value) (lo hi : Option Int) (st : Int) (h0 : st ≠ 0) : slicePick its.toArray lo hi (some st) = (stepX its lo hi st).toArray := by
  unfold slicePick
  rw [bounds_adjust _ _ _ _ h0, range_places _ _ _ h0]
  show ((stepIx its.toArray.size lo hi st).filterMap (its.toArray[·]?)).toArray = _
  rw [List.size_toArray]
  simp [stepX]
theorem stepX_rev {α : Type} (xs : List α) : stepX xs none none (-1) = xs.reverse := by
  have e : stepIx xs.length none none (-1) = (List.range xs.length).map fun k => xs.length - 1 - k := by
    have z := range_places ((xs.length : Int) - 1) (-1) (-1) (by decide)
    rw [PySem.W.krv_sliceRange] at z
    exact z.symm
  unfold stepX
  rw [e, PySem.W.krv_range, List.filterMap_reverse]
  have := PySem.W.krv_all xs.toArray
  simp at this
  rw [this]
theorem stepX_len {α : Type} (xs : List α) (lo hi : Option Int) (st : Int) (h0 : st ≠ 0) : (stepX xs lo hi st).length ≤ xs.length := by
  have e : (stepX xs lo hi st).length ≤ (stepIx xs.length lo hi st).length := List.length_filterMap_le _ _
  have b := slicePick_size_le (Array.replicate xs.length Value.none) lo hi (some st)
  have g : (slicePick (Array.replicate xs.length Value.none) lo hi (some st)).size = (stepX (List.replicate xs.length Value.none) lo hi st).length := by
    have := pick_step (List.replicate xs.length Value.none) lo hi st h0
    rw [show (List.replicate xs.length Value.none).toArray = Array.replicate xs.length Value.none from by simp] at this
    rw [this, List.size_toArray]
  rw [g, Array.size_replicate] at b
  have key : ∀ (ix : List Nat), (ix.filterMap (xs[·]?)).length = (ix.filterMap ((List.replicate xs.length Value.none)[·]?)).length := by
    intro ix
    induction ix with
    | nil => rfl
    | cons i ix ih =>
      by_cases hi : i < xs.length
      · simp [List.filterMap_cons, hi, ih]
      · have h1 : xs[i]? = none := by simp; omega
        have h2 : (List.replicate xs.length Value.none)[i]? = none := by simp; omega
        simp [List.filterMap_cons, h1, h2, ih]
  unfold stepX at b ⊢
  rw [key]
  simpa using b
theorem stepX_rp {K : Frg} {H : Hp} {vs : List V} {ds : List D} (r : RpAll K H vs ds) (lo hi : Option Int) (st : Int) : RpAll K H (stepX vs lo hi st) (stepX ds lo hi st) := by
  unfold stepX
  rw [r.length]
  generalize stepIx ds.length lo hi st = ix
  induction ix with
  | nil => exact .nil
  | cons i ix ih =>
    cases e : vs[i]? with
    | none =>
      have e2 : ds[i]? = none := by have := r.length; simp at e ⊢; omega
      simpa [List.filterMap_cons, e, e2] using ih
    | some v =>
      obtain ⟨d, e2, q⟩ := r.get e
      simp only [List.filterMap_cons, e, e2]
      exact .cons q ih
theorem stepX_vals {vs : List V} {us : List Value} (r : Vals vs us) (lo hi : Option Int) (st : Int) : Vals (stepX vs lo hi st) (stepX us lo hi st) := by
  unfold stepX
  rw [r.length]
  generalize stepIx us.length lo hi st = ix
  induction ix with
  | nil => exact .nil
  | cons i ix ih =>
    cases e : vs[i]? with
    | none =>
      have e2 : us[i]? = none := by have := r.length; simp at e ⊢; omega
      simpa [List.filterMap_cons, e, e2] using ih
    | some v =>
      obtain ⟨d, e2, q⟩ := r.get e
      simp only [List.filterMap_cons, e, e2]
      exact .cons q ih
section
variable {prog : Program} {w : World} {A : Around} {E : Value → Shared → Prop} {s : Shared}
theorem applied_step {sl : Addr} {vl vu : Value} {lo hi : Option Int} {st : Int} {t : Tok} {n : Nat} {Q : Int × Int × Nat → Shared → Prop} (hs : s.heap.IsSliceOf sl vl vu (.int st t)) (pl : IsPart vl lo) (pu : IsPart vu hi) (h0 : st ≠ 0)
    (h : Q ((Builtin.Slice.sliceAdjust lo hi st n).1, st, Builtin.Slice.slicePlaces (Builtin.Slice.sliceAdjust lo hi st n).1 (Builtin.Slice.sliceAdjust lo hi st n).2 st) s) : wpAny (model prog w) A (Builtin.Slice.sliceApplied (.ref sl) (pure (n : Int))) Q E s := by
  obtain ⟨os, hos, hcs, hds⟩ := id hs
  unfold Builtin.Slice.sliceApplied Builtin.Slice.sliceFields
  refine wpAny_bind (wpAny_bind (wpAny_field hos hds (x := vl) rfl (wpAny_bind (wpAny_field hos hds (x := vu) rfl (wpAny_bind (wpAny_field hos hds (x := .int st t) rfl (wpAny_pure ?_)))))))
  refine wpAny_bind (HT.slicePart_ (.int st t) ?_)
  show wpAny _ _ (if (st == 0) = true then _ else _) _ _ s
  rw [if_neg (by simpa using h0)]
  refine wpAny_bind (HT.slicePart_ pl (wpAny_bind (HT.slicePart_ pu (wpAny_bind (wpAny_pure ?_)))))
  exact wpAny_pure h
theorem getItem_tuple_step {t sl : Addr} {its : List Value} {vl vu : Value} {lo hi : Option Int} {st : Int} {tk : Tok} {Q : Value → Shared → Prop} (ht : IsTup s.heap t its.toArray) (hs : s.heap.IsSliceOf sl vl vu (.int st tk)) (pl : IsPart vl lo) (pu : IsPart vu hi)
    (h0 : st ≠ 0) (h1 : st ≠ 1)
    (h : Q (.ref s.heap.objs.size) { s with heap := s.heap.push { cls := .type "tuple", data := .seq (stepX its lo hi st).toArray } })
    (hsz : its.length ≤ sizeLine) : wpAny (model prog w) A (getItem (.ref t) (.ref sl)) Q E s := by
  have htake : sizeOk (.seq (stepX its lo hi st).toArray) := by
    show (stepX its lo hi st).toArray.size ≤ sizeLine
    rw [List.size_toArray]
    exact Nat.le_trans (stepX_len its lo hi st h0) hsz
  obtain ⟨os, hos, hcs, hds⟩ := id hs
  have hTs : s.TypeIs (.ref sl) "slice" := ⟨os, hos, hcs⟩
  unfold getItem
  try with_reducible refine wpAny_holding ?_
  first | refine wpAny_bind (wpAny_pure ?_) | skip
  refine wpAny_bind (wpAny_sequenceKey ht.typeIs (by decide) ?_)
  refine wpAny_bind (wpAny_callSpecial?_slot (name := Str.ofString "__getitem__") ht.typeIs PyProof.Rows.slot_tuple_getitem
    (wpAny_call_entry PyProof.Rows.slot_tuple_getitem ht.typeIs entry_tuple_getitem ?_ (args_tuple_getitem _ _)))
  show wpAny _ _ (Builtin.Tuple.tupleItemsOf (.ref t) >>= _) _ _ s
  refine wpAny_bind (tupleItemsOf_ ht ?_)
  refine wpAny_bind (wpAny_typeOf hTs ?_)
  rw [if_pos (by decide)]
  refine wpAny_bind (applied_step (n := its.toArray.size) hs pl pu h0 ?_)
  have hno : ¬ (((Builtin.Slice.sliceAdjust lo hi st its.toArray.size).1 == 0 && st == 1 && Builtin.Slice.slicePlaces (Builtin.Slice.sliceAdjust lo hi st its.toArray.size).1 (Builtin.Slice.sliceAdjust lo hi st its.toArray.size).2 st == its.toArray.size) = true) := by
    intro q
    rw [Bool.and_eq_true, Bool.and_eq_true] at q
    exact h1 (eq_of_beq q.1.2)
  show wpAny _ _ (if ((Builtin.Slice.sliceAdjust lo hi st its.toArray.size).1 == 0 && st == 1 && Builtin.Slice.slicePlaces (Builtin.Slice.sliceAdjust lo hi st its.toArray.size).1 (Builtin.Slice.sliceAdjust lo hi st its.toArray.size).2 st == its.toArray.size) = true then _ else _) _ _ s
  rw [if_neg hno]
  have e : ((List.range (Builtin.Slice.slicePlaces (Builtin.Slice.sliceAdjust lo hi st its.toArray.size).1 (Builtin.Slice.sliceAdjust lo hi st its.toArray.size).2 st)).filterMap fun (k : Nat) => its.toArray[((Builtin.Slice.sliceAdjust lo hi st its.toArray.size).1 + (k : Int) * st).toNat]?).toArray = (stepX its lo hi st).toArray := by
    unfold stepX stepIx
    rw [List.filterMap_map, List.size_toArray]
    refine congrArg (fun f => (List.filterMap f _).toArray) (funext fun k => ?_)
    simp
  rw [e]
  first
    | exact wpAny_bind (m := Builtin.Tuple.tupleExact _) (wpAny_newObj_type (wpAny_pure ⟨_, rfl, wpAny_pure h⟩) htake)
    | exact wpAny_bind (m := Builtin.Tuple.tupleExact _) (wpAny_newObj_type (wpAny_bind (wpAny_pure (wpAny_pure ⟨_, rfl, wpAny_pure h⟩))) htake)
    | exact wpAny_bind (wpAny_bind (m := Builtin.Tuple.tupleExact _) (wpAny_newObj_type (wpAny_pure (wpAny_pure ⟨_, rfl, wpAny_pure h⟩)) htake))
    | exact wpAny_bind (wpAny_bind (m := Builtin.Tuple.tupleExact _) (wpAny_newObj_type (wpAny_pure ⟨_, rfl, wpAny_pure h⟩) htake))
end
/-- x[lo:hi:st] -/
def tStep (K : Frg) (te : TE) (tl th ts : TO) : TE := fun σ H Q => te σ H fun x H1 => tl σ H1 fun lo H2 => th σ H2 fun hi H3 => ts σ H3 fun so H4 => ∃ st, so = some st ∧ st ≠ 0 ∧ st ≠ 1 ∧ ∃ a xs, x = .ref a ∧
  ((SqL K H4 a xs ∧ ∀ p, H4 p = none → Q (.ref p) (upd H4 p (.lst (stepX xs lo hi st)))) ∨ (SqT K H4 a xs ∧ ∀ p, H4 p = none → Q (.ref p) (upd H4 p (.tup (stepX xs lo hi st)))))
theorem pe_step {X : Cx} {e : Expr} {lo hi : Option Expr} {sx : Expr} {te : TE} {tl th ts : TO} {p3 pos : Pos} (he : PE X e te) (hl : PO X lo tl) (hh : PO X hi th) (hst : PO X (some sx) ts) : PE X (.Subscript e (.Slice lo hi (some sx) p3) pos) (tStep X.K te tl th ts) := by
  refine ⟨fun pins s σ H Q I h => ?_⟩
  refine Subscript_ (thn (he.run pins s σ H _ I h) fun v s1 ⟨x, H1, I1, r1, q1⟩ => ?_)
  refine wpAny_Slice (thn (hl.run pins s1 σ H1 _ I1 q1) fun vl s2 ⟨l, H2, I2, pl, q2⟩ => ?_)
  refine thn (hh.run pins s2 σ H2 _ I2 q2) fun vu s3 ⟨u, H3, I3, pu, q3⟩ => ?_
  refine thn (hst.run pins s3 σ H3 _ I3 q3) fun vs s4 ⟨o, H4, I4, ps, q4⟩ => ?_
  obtain ⟨k, eo, h0, h1, a, xs, ex, q⟩ := q4
  subst eo ex
  cases r1
  cases ps with
  | int _ tk =>
  have I5 : Inv X pins σ H4 { s4 with heap := s4.heap.push { cls := .type "slice", data := .fields #[vl, vu, .int k tk] } } := I4.kept (t' := s4.toks) fun b ob q => Heap.get?_push_of_some _ q
  show wpAny (model X.prog X.w) X.A (subscriptTail e (.Slice lo hi (some sx) p3) (.ref a) (.ref s4.heap.objs.size)) (EP X pins σ Q) X.xe { s4 with heap := s4.heap.push { cls := .type "slice", data := .fields #[vl, vu, .int k tk] } }
  rcases q with ⟨hx, q⟩ | ⟨hx, q⟩
  · obtain ⟨its, r, ht, hz⟩ := I5.list hx
    have hlen := r.length
    refine tail_any (ops := [.ref a, .ref s4.heap.objs.size]) ht.isList.typeIs (PySem.slot_list_getitem.lookup) ?_ (by with_unfolding_all rfl)
    refine wpAny_getItem_list_slice ht.isList (Heap.IsSliceOf.new _ vl vu (.int k tk)) pl pu (.int k tk) (by simpa using h0) ?_ (by rw [List.size_toArray]; omega)
    rw [pick_step _ _ _ _ h0]
    refine ⟨.ref _, _, I5.laid (t' := s4.toks) (o := .lst (stepX xs l u k)) (fun b ob q => Heap.get?_push_of_some _ q) (Nat.le_refl _) ?_, rfl, q _ (I5.hok.fresh (Nat.le_refl _))⟩
    exact ⟨Nat.le_trans (stepX_len _ _ _ _ h0) hz, _, 0, stepX_vals r _ _ _, Heap.get?_push_size _ rfl⟩
  · obtain ⟨its, r, ht, hz⟩ := I5.tuple hx
    have hlen := r.length
    refine tail_any (ops := [.ref a, .ref s4.heap.objs.size]) ht.typeIs (PyProof.Rows.slot_tuple_getitem.lookup) ?_ (by with_unfolding_all rfl)
    refine getItem_tuple_step ht (Heap.IsSliceOf.new _ vl vu (.int k tk)) pl pu h0 h1 ?_ (by omega)
    refine ⟨.ref _, _, I5.laid (t' := s4.toks) (o := .tup (stepX xs l u k)) (fun b ob q => Heap.get?_push_of_some _ q) (Nat.le_refl _) ?_, rfl, q _ (I5.hok.fresh (Nat.le_refl _))⟩
    exact ⟨Nat.le_trans (stepX_len _ _ _ _ h0) hz, _, stepX_vals r _ _ _, IsTup.new _ _⟩
end PV
set_option Elab.async false
set_option linter.all false
set_option autoImplicit false
set_option maxRecDepth 100000
set_option maxHeartbeats 2000000
/-! PV: sets of numbers and texts that are made of a row, counted and sorted. -/
namespace PV
open PySem PySem.Spec PyProof.Rows L2
/-- a table that may be walked -/
def Lv (w : World) (t : SetTable) : Prop := Ris t.place.toList ∧ (w.params.followText "set-order" = true ∨ t.led = true)
def kOf (e : Int × Value) : Key := match e.2 with
  | .int i _ => .inl i
  | .str x _ => .inr x
  | _ => .inl 0
/-- a key, added -/
instance memK (k : Key) (ks : List Key) : Decidable (k ∈ ks) := decidable_of_iff ((ks.any fun j => decide (j = k)) = true) ⟨fun h => by
  obtain ⟨j, h1, h2⟩ := List.any_eq_true.mp h
  have := of_decide_eq_true h2
  exact this ▸ h1, fun h => List.any_eq_true.mpr ⟨k, h, decide_eq_true rfl⟩⟩
def insK (ks : List Key) (k : Key) : List Key := if k ∈ ks then ks else k :: ks
def dsetK (ks : List Key) : List Key := ks.foldl insK []
theorem insK_mem {ks : List Key} {k j : Key} : j ∈ insK ks k ↔ j ∈ ks ∨ j = k := by
  unfold insK
  split
  · rename_i h
    exact ⟨.inl, fun z => z.elim id fun e => e ▸ h⟩
  · rw [List.mem_cons]; exact Or.comm
theorem insK_nodup {ks : List Key} {k : Key} (h : ks.Nodup) : (insK ks k).Nodup := by
  unfold insK
  split
  · exact h
  · rename_i n; exact List.nodup_cons.mpr ⟨n, h⟩
theorem insK_len {ks : List Key} {k : Key} : (insK ks k).length ≤ ks.length + 1 := by
  unfold insK
  split <;> simp
theorem fold_mem {j : Key} : ∀ (ks acc : List Key), j ∈ ks.foldl insK acc ↔ j ∈ acc ∨ j ∈ ks
  | [], acc => by simp
  | k :: ks, acc => by rw [List.foldl_cons, fold_mem ks, insK_mem, List.mem_cons, or_assoc]
theorem fold_nodup : ∀ (ks acc : List Key), acc.Nodup → (ks.foldl insK acc).Nodup
  | [], _, h => h
  | k :: ks, acc, h => fold_nodup ks _ (insK_nodup h)
theorem fold_len : ∀ (ks acc : List Key), (ks.foldl insK acc).length ≤ acc.length + ks.length
  | [], _ => Nat.le_refl _
  | k :: ks, acc => by
    have h1 := fold_len ks (insK acc k)
    have h2 := insK_len (ks := acc) (k := k)
    simp only [List.foldl_cons, List.length_cons]
    omega
theorem dset_mem {j : Key} {ks : List Key} : j ∈ dsetK ks ↔ j ∈ ks := by unfold dsetK; rw [fold_mem]; simp
theorem dset_nodup {ks : List Key} : (dsetK ks).Nodup := fold_nodup _ _ List.nodup_nil
theorem dset_len {ks : List Key} : (dsetK ks).length ≤ ks.length := by have := fold_len ks []; simpa [dsetK] using this
/-- entries of keys -/
def Ents (P : Program) (w : World) (l : List (Int × Value)) : Prop := ∀ e ∈ l, (mixKind P w).is (kOf e) e.2 = true ∧ e.1 = (mixKind P w).hash (kOf e)
def WS (P : Program) (w : World) (h : Heap) (a : Addr) (ks : List Key) : Prop :=
  ∃ ob tab ep t, h.get? a = some ob ∧ ob.ExactSet ∧ ob.data = .set tab ep t ∧ Ents P w tab.toList ∧ (tab.toList.map kOf).Perm ks ∧ ks.Nodup ∧ tab.size < scanBound ∧ t.fits tab.size = true ∧ Lv w t
section
variable {P : Program} {w : World} {A : Around} {E : Value → Shared → Prop} {s : Shared} {a : Addr} {ks : List Key}
theorem WS.keep {h h' : Heap} (x : WS P w h a ks) (k : ∀ o, h.get? a = some o → h'.get? a = some o) : WS P w h' a ks := by
  obtain ⟨ob, tab, ep, t, h1, r⟩ := x
  exact ⟨ob, tab, ep, t, k _ h1, r⟩
theorem kOf_of {k : Key} {h : Int} {v : Value} (r : (mixKind P w).is k v = true) : kOf (h, v) = k := by
  rcases keyIs_shape r with ⟨i, t, e1, e2⟩ | ⟨i, t, e1, e2⟩ <;> subst e1 e2 <;> rfl
theorem Ents.els {l : List (Int × Value)} (g : Ents P w l) : ElemsOf (mixKind P w) l := fun e he => by
  obtain ⟨g1, g2⟩ := g e he
  refine ⟨⟨_, g1, g2⟩, ?_⟩
  rcases keyIs_shape g1 with ⟨i, t, _, e2⟩ | ⟨i, t, _, e2⟩ <;> rw [e2] <;> rfl
/-- the table is stored, and laid anew where it is too full -/
theorem ws_tail {ask : Bool → Sem Unit} (hask : ∀ (b : Bool) (s1 : Shared) (R : Unit → Shared → Prop), R () s1 → wpAny (model P w) A (ask b) R E s1) {ob : Obj} {tab tab1 : Array (Int × Value)} {ep : Nat} {t t1 : SetTable}
    (h1 : s.heap.get? a = some ob) (h2 : ob.ExactSet) (h3 : ob.data = .set tab ep t) (g : Ents P w tab1.toList) (p : (tab1.toList.map kOf).Perm ks) (nd : ks.Nodup) (hb : tab1.size < scanBound) (hf : t1.fits tab1.size = true) (lv : Lv w t1) {gone : Bool} {R : Option Bool → Shared → Prop}
    (fin : ∀ h', Heap.SameBut a s.heap h' → WS P w h' a ks → R (some true) { s with heap := h' }) :
    wpAny (model P w) A (do
      storeSet a tab1 t1
      if (!gone && t1.tooFull) = true then do
        ask (relayAll t1 tab1 (SetTable.grown tab1.size)).2.2
        storeSet a (relayAll t1 tab1 (SetTable.grown tab1.size)).1 (relayAll t1 tab1 (SetTable.grown tab1.size)).2.1
        pure (some true)
      else pure (some true)) R E s := by
  refine wpAny_bind (wpAny_storeSet_of h1 h3 ?_ (fits_of_scanBound hb))
  have k1 := store_at (es' := tab1) (t' := t1) h1 h3
  have k2 := Heap.SameBut.update s.heap a (Obj.putSet tab1 t1)
  split
  · have q1 := relayAll_perm t1 tab1 (SetTable.grown tab1.size)
    have q2 := relayAll_fits t1 tab1 (SetTable.grown tab1.size)
    have q3 : Lv w (relayAll t1 tab1 (SetTable.grown tab1.size)).2.1 := ⟨relayAll_ris _ _ _, lv.2.imp id fun z => (relayAll_led _ _ _).trans z⟩
    revert q1 q2 q3
    generalize relayAll t1 tab1 (SetTable.grown tab1.size) = trio
    obtain ⟨tab2, t2, gave⟩ := trio
    intro q1 q2 q3
    have hb2 : tab2.size < scanBound := by
      have z := q1.length_eq
      simp only [Array.length_toList] at z
      omega
    refine wpAny_bind (hask _ _ _ (wpAny_bind (wpAny_storeSet_of k1 rfl (wpAny_pure (fin _ (k2.trans (Heap.SameBut.update _ a _)) ?_)) (fits_of_scanBound hb2))))
    exact ⟨_, tab2, _, t2, store_at (es' := tab2) (t' := t2) k1 rfl, h2, rfl, fun e he => g e (q1.mem_iff.mp he), (q1.map kOf).trans p, nd, hb2, q2, q3⟩
  · exact wpAny_pure (fin _ k2 ⟨_, tab1, _, t1, k1, h2, rfl, g, p, nd, hb, hf, lv⟩)
theorem ws_add {k : Key} {x : Value} {Q : Bool → Shared → Prop} (hk : (mixKind P w).is k x = true) (sc : x.scannable = true) (r : WS P w s.heap a ks) (room : ks.length + 1 < scanBound)
    (fin : ∀ b h', Heap.SameBut a s.heap h' → WS P w h' a (insK ks k) → Q b { s with heap := h' }) : wpAny (model P w) A (setAddHashed a x ((mixKind P w).hash k)) Q E s := by
  obtain ⟨ob, tab, ep, t, h1, h2, h3, g, p, nd, hb, hf, lv⟩ := r
  have el := g.els
  unfold setAddHashed setAddHashedIn
  refine wpAny_holding (wpAny_bind (wpAny_setState_of h1 h3 hf ?_))
  dsimp only
  rw [byScan_of sc hb el]
  simp only [↓reduceIte]
  unfold setAddByScan
  refine wpAny_bind (wpAny_bind (wpAny_rule (wpAny_bind (wpAny_setScan_of hk h1 h3 hf el ?_))))
  cases at0 : List.findIdx? (fun e => (mixKind P w).is k e.2) tab.toList with
  | some j =>
    obtain ⟨j1, j2, _⟩ := List.findIdx?_eq_some_iff_getElem.mp at0
    have here : k ∈ ks := p.mem_iff.mp (List.mem_map.mpr ⟨tab.toList[j], List.getElem_mem j1, kOf_of (h := tab.toList[j].1) j2⟩)
    have e : insK ks k = ks := by unfold insK; rw [if_pos here]
    dsimp only
    exact wpAny_pure (wpAny_pure (fin _ s.heap (Heap.SameBut.refl a s.heap) (by rw [e]; exact ⟨ob, tab, ep, t, h1, h2, h3, g, p, nd, hb, hf, lv⟩)))
  | none =>
    have new : k ∉ ks := fun z => by
      obtain ⟨e, he, ek⟩ := List.mem_map.mp (p.mem_iff.mpr z)
      have c := List.findIdx?_eq_none_iff.mp at0 e he
      have d := (g e he).1
      rw [ek] at d
      rw [d] at c
      cases c
    have e : insK ks k = k :: ks := by unfold insK; rw [if_neg new]
    rw [e] at fin
    dsimp only
    have q1 := layNew_perm t tab ((mixKind P w).hash k) x
    have q2 := layNew_fits t tab ((mixKind P w).hash k) x
    have q3 : Lv w (layNew t tab ((mixKind P w).hash k) x).2.1 := ⟨layNew_ris _ _ _ _ lv.1, lv.2.imp id fun z => (layNew_led _ _ _ _).trans z⟩
    revert q1 q2 q3
    generalize layNew t tab ((mixKind P w).hash k) x = four
    obtain ⟨tab1, t1, gone, gave⟩ := four
    intro q1 q2 q3
    dsimp only at q1 q2 q3 ⊢
    rw [Array.toList_push] at q1
    have q4 : tab1.toList.Perm (((mixKind P w).hash k, x) :: tab.toList) := q1.trans (List.perm_append_singleton _ _)
    have kx : kOf ((mixKind P w).hash k, x) = k := kOf_of hk
    have g1 : Ents P w tab1.toList := fun e he => by
      rcases List.mem_cons.mp (q4.mem_iff.mp he) with z | z
      · subst z; exact ⟨by rw [kx]; exact hk, by rw [kx]⟩
      · exact g e z
    have p1 : (tab1.toList.map kOf).Perm (k :: ks) := by
      refine (q4.map kOf).trans ?_
      rw [List.map_cons, kx]
      exact p.cons k
    have nd1 : (k :: ks).Nodup := List.nodup_cons.mpr ⟨new, nd⟩
    have hb1 : tab1.size < scanBound := by
      have z := p1.length_eq
      simp only [List.length_map, Array.length_toList, List.length_cons] at z
      omega
    have say : ∀ (b : Bool) (s1 : Shared) (R : Unit → Shared → Prop), R () s1 → wpAny (model P w) A (match b with | true => rule "set.scan.the-table-gave-way" | false => pure ()) R E s1 := fun b s1 R z => by
      cases b
      · exact wpAny_pure z
      · exact wpAny_rule z
    refine wpAny_bind (say _ _ _ ?_)
    split
    · refine wpAny_bind ?_
      rw [hashByValue_scannable 8 sc]
      refine wpAny_pure (ws_tail ?_ h1 h2 h3 g1 p1 nd1 hb1 ?_ ?_ fun h' sb r => wpAny_pure (fin _ h' sb r))
      · intro b s1 R z; cases b <;> first | exact wpAny_pure z | exact wpAny_rule z
      · first | (split <;> first | exact q2 | exact SetTable.fits_plain_off q2) | exact q2
      · first | (split <;> exact q3) | exact q3
    · refine wpAny_bind (wpAny_pure ?_)
      simp only [↓reduceIte]
      refine ws_tail ?_ h1 h2 h3 g1 p1 nd1 hb1 q2 q3 fun h' sb r => wpAny_pure (fin _ h' sb r)
      intro b s1 R z; cases b <;> first | exact wpAny_pure z | exact wpAny_rule z
end

/-- values that are keys -/
def KeysAre (P : Program) (w : World) (us : List Value) (ks : List Key) : Prop := us.length = ks.length ∧ ∀ (i : Nat) (u : Value), us[i]? = some u → ∃ k, ks[i]? = some k ∧ (mixKind P w).is k u = true ∧ u.scannable = true
section
variable {P : Program} {w : World} {A : Around} {E : Value → Shared → Prop} {s : Shared}
theorem ws_new {h : Heap} {a : Addr} (e : h.get? a = some { cls := .type "set", dict := none, data := .set #[] 0 (.fresh 0 0 (!w.params.followText "set-order")) }) : WS P w h a [] := by
  refine ⟨_, #[], 0, _, e, ⟨rfl, rfl, rfl⟩, rfl, fun e he => by simp at he, .nil, List.nodup_nil, by decide, rfl, List.Pairwise.nil, ?_⟩
  show _ ∨ (!w.params.followText "set-order") = true
  cases w.params.followText "set-order"
  · exact .inr rfl
  · exact .inl rfl
theorem take_fold {ks : List Key} {i : Nat} {k : Key} (h : ks[i]? = some k) : (ks.take (i + 1)).foldl insK [] = insK ((ks.take i).foldl insK []) k := by
  rw [List.take_add_one, h, List.foldl_append]
  rfl
theorem ws_loop {I : Addr} {fp wr : List Addr} {St : Nat → Heap → Prop} {us : List Value} {R : Result → Shared → Prop} (W : WalksS P w A.in1 I fp wr (fun a b => b = a) us.length (fun i v => us[i]? = some v) (fun i s => St i s.heap)) (a : Addr) (ha : a ∉ fp) {ks : List Key} (ku : KeysAre P w us ks) (room : ks.length + 1 < scanBound) :
    ∀ (m i : Nat) (s : Shared), us.length - i = m → i ≤ us.length → St i s.heap → WS P w s.heap a ((ks.take i).foldl insK []) →
      (∀ s', Moved (a :: wr) (fun a b => b = a) s s' → WS P w s'.heap a (dsetK ks) → R (.ok (.ret .none)) s') → codeAny (model P w) A (.builtin "set.update.loop" ⟨[.ref a, .ref I], []⟩) R s := by
  have apart : a ∉ wr := fun z => ha (W.sub _ z)
  have more : ∀ b ∈ wr, b ∈ a :: wr := fun b hb => .tail _ hb
  intro m
  induction m with
  | zero =>
    intro i s hm hi st x fin
    obtain rfl : i = us.length := by omega
    refine codeAny_builtin F.entry_set_update_loop ?_
    rw [Around.under_plainId F.plain_set_update_loop _]
    refine wpAny_bind (W.done s _ _ st fun s' mv => ?_)
    have e : ks.take us.length = ks := List.take_of_length_le (by rw [ku.1]; exact Nat.le_refl _)
    rw [e] at x
    exact wpAny_pure (fin s' (mv.mono more) (x.keep fun o z => mv.heap a o apart z))
  | succ m ih =>
    intro i s hm hi st x fin
    have lt : i < us.length := by omega
    refine codeAny_builtin F.entry_set_update_loop ?_
    rw [Around.under_plainId F.plain_set_update_loop _]
    refine wpAny_bind (W.item i s _ _ lt st fun v s' at_i st' mv => ?_)
    obtain ⟨k, hk, isk, sc⟩ := ku.2 i v at_i
    have x' : WS P w s'.heap a ((ks.take i).foldl insK []) := x.keep fun o z => mv.heap a o apart z
    show wpAny _ A.in1 (holding [v] (setAdd a v) >>= _) _ _ s'
    refine wpAny_bind (wpAny_holding ?_)
    unfold setAdd
    refine wpAny_holding (wpAny_bind ((mixKind P w).pyHash isk ?_))
    have few : ((ks.take i).foldl insK []).length + 1 < scanBound := by
      have := fold_len (ks.take i) []
      have z : (ks.take i).length ≤ ks.length := by rw [List.length_take]; omega
      simp only [List.length_nil] at this
      omega
    refine ws_add (s := { s' with toks := s'.toks + 1 }) isk sc x' few fun b h' sb x2 => ?_
    rw [← take_fold hk] at x2
    refine wpAny_pure ⟨plainId_quiet F.plain_set_update_loop _, ih (i + 1) _ (by omega) lt (W.frame _ s' _ _ st' (Nat.le_succ _) fun c hc o z => ?_) x2 fun s2 mv2 x3 => ?_⟩
    · exact (sb.2 c fun q => ha (q ▸ hc)).trans z
    · exact fin s2 (Moved.trans W.gtrans ((mv.mono more).then_heap (Nat.le_succ _) fun c o hc z => (sb.2 c fun q => hc (q ▸ .head _)).trans z) mv2) x3
theorem code_set1 (v : Value) {Q₁ : Value → Shared → Prop}
    (h : Q₁ (.ref s.heap.objs.size) { s with heap := s.heap.push { cls := .type "set", dict := none, data := .set #[] 0 (.fresh 0 0 (!w.params.followText "set-order")) } }) :
    codeAny (model P w) A (.call (.builtin "set.__new__") ⟨[.type "set", v], []⟩) (wants Q₁ E) s := code_set_led1 v h
theorem upd_from {A : Around} {s : Shared} {a l : Addr} {T : String} {R : Unit → Shared → Prop} (ht : s.TypeIs (.ref l) T) (h1 : isSubtype (.type T) (.type "set") = pure false) (h2 : isSubtype (.type T) (.type "frozenset") = pure false) (h3 : (Value.type T == Value.type "dict") = false)
    (h : wpAny (model P w) A (pyIter (.ref l)) (fun v s1 => wpAny (model P w) A (runValue (.builtin "set.update.loop" ⟨[.ref a, v], []⟩) >>= fun _ => pure ()) R E s1) E s) : wpAny (model P w) A (Builtin.Frozenset.updateFrom "set.__init__" a (.ref l)) R E s := by
  unfold Builtin.Frozenset.updateFrom Builtin.Frozenset.isAnySet
  refine wpAny_bind (wpAny_bind (wpAny_isInstance ht h1 ?_))
  refine wpAny_isInstance ht h2 ?_
  refine wpAny_bind (wpAny_typeOf ht ?_)
  simp only [h3, Bool.false_eq_true, if_false]
  exact wpAny_bind h
/-- set(row), the row a list or a tuple -/
theorem call_setS (tp : Bool) {l : Addr} {us : List Value} {ks : List Key} {Q : Value → Shared → Prop} (hh : A.handled = none) (hl : SHas tp s.heap l us.toArray) (ku : KeysAre P w us ks) (room : ks.length + 1 < scanBound)
    (h : ∀ (h' : Heap) (tk : Nat), WS P w h' s.heap.objs.size (dsetK ks) → (∀ b o, s.heap.get? b = some o → h'.get? b = some o) → Q (.ref s.heap.objs.size) { s with heap := h', toks := tk }) :
    wpAny (model P w) A (call (.type "set") [.ref l]) Q E s := by
  obtain ⟨mc, ml, mro⟩ := F.called_set.mro
  have made := F.called_set.made
  have sub := F.called_set.sub
  refine wpAny_call (codeAny_of_tree ?_)
  show wpAny _ _ (callAny (.type "set") _) _ _ _
  refine wpAny_pure ⟨Code.quiet_builtin _ (by decide +kernel), codeAny_builtin F.entry_type_call ?_⟩
  rw [Around.under_plain (weight_type_call_type "set" [.ref l] []) rfl]
  have f1 := F.called_set.notType
  have f2 := F.called_set.canCreate
  have f3 := F.typeCall_set_1 (.ref l)
  repeat (any_goals (first | assumption | wp_step))
  refine codeAny_mono (code_set1 (.ref l) (E := E) (Q₁ := fun ob s1 => ob = .ref s.heap.objs.size ∧ s1 = { s with heap := s.heap.push { cls := .type "set", dict := none, data := .set #[] 0 (.fresh 0 0 (!w.params.followText "set-order")) } }) ⟨rfl, rfl⟩) fun r s1 hr => ?_
  cases r with
  | error e => exact hr
  | ok fl =>
    cases fl with
    | ret ob =>
      obtain ⟨rfl, rfl⟩ := hr
      have e0 : (s.heap.push { cls := .type "set", dict := none, data := .set #[] 0 (.fresh 0 0 (!w.params.followText "set-order")) }).get? s.heap.objs.size = some { cls := .type "set", dict := none, data := .set #[] 0 (.fresh 0 0 (!w.params.followText "set-order")) } := Heap.get?_push_size _ rfl
      have f4 := F.called_set.init.lookup
      have f5 := F.called_set.init.bind (.ref s.heap.objs.size)
      have f6 : Shared.TypeIs { s with heap := s.heap.push { cls := .type "set", dict := none, data := .set #[] 0 (.fresh 0 0 (!w.params.followText "set-order")) } } (.ref s.heap.objs.size) "set" := ⟨_, e0, rfl⟩
      repeat (any_goals (first | assumption | wp_step))
      refine codeAny_mono (codeAny_call_builtin (R := wants (fun r s2 => r = .none ∧ ∃ h' tk, s2 = { s with heap := h', toks := tk } ∧ WS P w h' s.heap.objs.size (dsetK ks) ∧ (∀ b o, s.heap.get? b = some o → h'.get? b = some o)) E) F.called_set.init.plain F.entry_set_init (check_set_init_1 f6 ?_)) fun r2 s2 hr2 => ?_
      · generalize hz : s.heap.push { cls := .type "set", dict := none, data := .set #[] 0 (.fresh 0 0 (!w.params.followText "set-order")) } = h0 at e0 ⊢
        have size0 : h0.objs.size = s.heap.objs.size + 1 := by rw [← hz]; exact Heap.size_push ..
        have old : ∀ b o, s.heap.get? b = some o → h0.get? b = some o := fun b o z => by rw [← hz]; exact Heap.get?_push_of_some _ z
        have low : l < s.heap.objs.size := hl.lt
        have hh3 : A.in1.in1.in1.handled = none := by simp [hh]
        have far : l ≠ h0.objs.size := by rw [size0]; exact Nat.ne_of_lt (Nat.lt_succ_of_lt low)
        have out : s.heap.objs.size ∉ [h0.objs.size, l] := by
          rw [size0]
          simp only [List.mem_cons, List.not_mem_nil, or_false, not_or]
          exact ⟨Nat.ne_of_lt (Nat.lt_succ_self _), Nat.ne_of_gt low⟩
        have isz : us.toArray.size = us.length := List.size_toArray ..
        have ends : ∀ (s' : Shared) (X : Obj), Moved [s.heap.objs.size, h0.objs.size] (fun a b => b = a) { s with heap := h0.push X } s' → WS P w s'.heap s.heap.objs.size (dsetK ks) →
            ∃ h' tk, s' = { s with heap := h', toks := tk } ∧ WS P w h' s.heap.objs.size (dsetK ks) ∧ (∀ b o, s.heap.get? b = some o → h'.get? b = some o) := by
          intro s' X mv x
          obtain ⟨h', g', d', tk', os'⟩ := s'
          obtain rfl : g' = s.gens := mv.gens
          obtain rfl : d' = s.drawn := mv.drawn
          obtain rfl : os' = s.os := mv.os
          refine ⟨h', tk', rfl, x, fun b o z => mv.heap b o ?_ (Heap.get?_push_of_some _ (old b o z))⟩
          have lt := Heap.lt_size z
          simp only [List.mem_cons, List.not_mem_nil, or_false, not_or]
          rw [size0]
          exact ⟨Nat.ne_of_lt lt, Nat.ne_of_lt (Nat.lt_succ_of_lt lt)⟩
        unfold Builtin.«set.__init__» noKeywords
        generalize hU : Builtin.Frozenset.updateFrom = U
        wp_walk
        subst hU
        cases tp with
        | true =>
          have has : h0.IsTuple l us.toArray := by
            obtain ⟨o, ho, r⟩ := (show s.heap.IsTuple l us.toArray from hl)
            exact ⟨o, old _ _ ho, r⟩
          refine upd_from (T := "tuple") (by obtain ⟨o, ho, hc, _⟩ := has; exact ⟨o, ho, hc⟩) F.sub_tuple_set F.sub_tuple_frozenset (by decide) ?_
          refine wpAny_pyIter_tuple has (wpAny_bind (wpAny_runValue ?_))
          refine ws_loop (us := us) (wr := [h0.objs.size]) (St := fun i h => h.IsTupleIter h0.objs.size l i ∧ h.IsTuple l us.toArray) (by have W := (Walks.tuple (prog := P) (w := w) hh3 h0.objs.size l far us.toArray).toS; rw [isz] at W; simpa using W) s.heap.objs.size out ku room (us.length - 0) 0 _ rfl (Nat.zero_le _) ⟨⟨_, Heap.get?_push_size _ rfl, rfl, rfl⟩, has.push _⟩ (ws_new (Heap.get?_push_of_some _ e0)) fun s' mv x => ?_
          obtain ⟨h', tk, e, x, kp⟩ := ends s' _ mv x
          exact wpAny_pure (wpAny_pure ⟨rfl, h', tk, e, x, kp⟩)
        | false =>
          have has : h0.IsList l us.toArray := by
            obtain ⟨o, ho, r⟩ := (show s.heap.IsList l us.toArray from hl)
            exact ⟨o, old _ _ ho, r⟩
          refine upd_from (T := "list") (by obtain ⟨o, ho, hc, _⟩ := has; exact ⟨o, ho, hc⟩) F.sub_list_set F.sub_list_frozenset (by decide) ?_
          refine wpAny_pyIter_list has (wpAny_bind (wpAny_runValue ?_))
          refine ws_loop (us := us) (wr := [h0.objs.size]) (St := fun i h => h.IsListIter h0.objs.size l i ∧ h.IsList l us.toArray) (by have W := (Walks.list (prog := P) (w := w) hh3 h0.objs.size l far us.toArray).toS; rw [isz] at W; simpa using W) s.heap.objs.size out ku room (us.length - 0) 0 _ rfl (Nat.zero_le _) ⟨⟨_, Heap.get?_push_size _ rfl, rfl, rfl⟩, has.push _⟩ (ws_new (Heap.get?_push_of_some _ e0)) fun s' mv x => ?_
          obtain ⟨h', tk, e, x, kp⟩ := ends s' _ mv x
          exact wpAny_pure (wpAny_pure ⟨rfl, h', tk, e, x, kp⟩)
      · cases r2 with
        | error e => exact hr2
        | ok fl2 =>
          cases fl2 with
          | ret r =>
            obtain ⟨rfl, h', tk, rfl, x, kp⟩ := hr2
            repeat (any_goals (first | assumption | wp_step))
            exact h _ _ x kp
          | _ => exact hr2.elim
    | _ => exact hr.elim
end
end PV
set_option Elab.async false
set_option linter.all false
set_option autoImplicit false
set_option maxRecDepth 100000
set_option maxHeartbeats 2000000
/-! PV: rows of numbers, rows of texts: sorted, from a list, a tuple or a set. -/
namespace PV
open PySem PySem.Spec PyProof.Rows L2
inductive Kl where
  | nums (ns : List Int)
  | txts (xs : List Str)
def Kl.vs : Kl → List V
  | .nums ns => ns.map V.int
  | .txts xs => xs.map V.str
def Kl.ds : Kl → List D
  | .nums ns => ns.map PyData.int
  | .txts xs => xs.map PyData.str
def Kl.ks : Kl → List Key
  | .nums ns => ns.map Sum.inl
  | .txts xs => xs.map Sum.inr
def Kl.len : Kl → Nat
  | .nums ns => ns.length
  | .txts xs => xs.length
def leS (x y : Str) : Bool := decide (x.cps.toList ≤ y.cps.toList)
def Kl.srt : Kl → Kl
  | .nums ns => .nums (ns.mergeSort fun a b => decide (a ≤ b))
  | .txts xs => .txts (xs.mergeSort leS)
theorem leS_trans (a b c : Str) (h : leS a b = true) (k : leS b c = true) : leS a c = true := by
  simp only [leS, decide_eq_true_eq] at *
  exact List.le_trans h k
theorem leS_total (a b : Str) : (leS a b || leS b a) = true := by
  simp only [leS, Bool.or_eq_true, decide_eq_true_eq]
  exact List.le_total _ _
theorem leS_anti {a b : Str} (h : leS a b = true) (k : leS b a = true) : a = b := by
  simp only [leS, decide_eq_true_eq] at *
  have e := List.le_antisymm h k
  cases a; cases b
  simp only [Array.toList_inj] at e
  rw [e]
theorem srtI_perm {a b : List Int} (p : a.Perm b) : (a.mergeSort fun a b => decide (a ≤ b)) = b.mergeSort fun a b => decide (a ≤ b) := by
  have tr : ∀ x y z : Int, decide (x ≤ y) = true → decide (y ≤ z) = true → decide (x ≤ z) = true := by simp only [decide_eq_true_eq]; omega
  have to : ∀ x y : Int, (decide (x ≤ y) || decide (y ≤ x)) = true := by simp only [Bool.or_eq_true, decide_eq_true_eq]; omega
  refine List.Perm.eq_of_pairwise (le := fun x y => decide (x ≤ y) = true) (fun x y _ _ h k => ?_) (List.pairwise_mergeSort tr to a) (List.pairwise_mergeSort tr to b) ((List.mergeSort_perm _ _).trans (p.trans (List.mergeSort_perm _ _).symm))
  simp only [decide_eq_true_eq] at h k
  omega
theorem srtS_perm {a b : List Str} (p : a.Perm b) : a.mergeSort leS = b.mergeSort leS :=
  List.Perm.eq_of_pairwise (le := fun x y => leS x y = true) (fun x y _ _ h k => leS_anti h k) (List.pairwise_mergeSort leS_trans leS_total a) (List.pairwise_mergeSort leS_trans leS_total b) ((List.mergeSort_perm _ _).trans (p.trans (List.mergeSort_perm _ _).symm))
theorem each_of {β : Type} (f : β → V) : ∀ {bs : List β} {us : List Value}, Vals (bs.map f) us → PySem.W.EachIs (fun v b => RelV (f b) v) us bs
  | [], us, h => by cases h; exact .nil
  | b :: bs, us, h => by
    cases h with
    | cons r t => exact .cons r (each_of f t)
theorem vals_of {β : Type} (f : β → V) : ∀ {bs : List β} {us : List Value}, PySem.W.EachIs (fun v b => RelV (f b) v) us bs → Vals (bs.map f) us
  | [], us, h => by cases h; exact .nil
  | b :: bs, us, h => by
    cases h with
    | cons r t => exact .cons r (vals_of f t)
section
variable {P : Program} {w : World} {A : Around} {E : Value → Shared → Prop} {s : Shared}
theorem sort_kl {a : Addr} {n : Nat} {us : List Value} {K : Kl} {Q : Value → Shared → Prop} (ho : s.heap.get? a = some (seqObj "list" us.toArray n)) (r : Vals K.vs us) (hz : K.len ≤ sizeLine) (hu : A.units + 1 < cLine)
    (h : ∀ out : List Value, Vals K.srt.vs out → Q .none { s with heap := sortedHeap s.heap a us out.toArray }) : wpAny (model P w) A (call (.builtin "list.sort") [.ref a]) Q E s := by
  cases K with
  | nums ns =>
    have e := each_of V.int r
    refine PySem.W.list_sort_data (enc := PyData.int) ho e (e.mono fun v b q => by obtain ⟨t, rfl⟩ := q; exact ⟨_, .int b t, by simp⟩) (PySem.W.AllAlike.of fun _ _ => rfl) (PySem.W.Sortable.others fun b => ⟨(fun z => nomatch z), fun xs z => nomatch z⟩) hz (fun b _ => by simpa [PyData.depth] using hu) fun out _ h2 => h out ?_
    have d := PySem.W.dataLe_int (fun b : Int => b)
    rw [d] at h2
    exact vals_of V.int h2
  | txts xs =>
    have e := each_of V.str r
    refine PySem.W.list_sort_data (enc := PyData.str) ho e (e.mono fun v b q => by obtain ⟨t, rfl⟩ := q; exact ⟨_, .str b t, by simp⟩) (PySem.W.AllAlike.of fun _ _ => rfl) (PySem.W.Sortable.others fun b => ⟨(fun z => nomatch z), fun xs z => nomatch z⟩) hz (fun b _ => by simpa [PyData.depth] using hu) fun out _ h2 => h out ?_
    have d := PySem.W.dataLe_str (fun b : Str => b)
    rw [d] at h2
    exact vals_of V.str h2
/-- sorted(..), when the members have been gathered -/
theorem sorted_by {r : Value} {K : Kl} {Q : Value → Shared → Prop} (hz : K.len ≤ sizeLine) (hu : A.units + 2 < cLine)
    (hc : ∀ (E' : Value → Shared → Prop) (Q' : List Value → Shared → Prop), (∀ s1 us (K' : Kl), (∀ b o, s.heap.get? b = some o → s1.heap.get? b = some o) → s.heap.objs.size ≤ s1.heap.objs.size → s1.gens = s.gens → s1.os = s.os → Vals K'.vs us → K'.srt = K.srt → K'.len = K.len → Q' us s1) → wpAny (model P w) A.in1 (collect r) Q' E' s)
    (hQ : ∀ s1 p (out : List Value) c, (∀ b o, s.heap.get? b = some o → s1.heap.get? b = some o) → s1.gens = s.gens → s1.os = s.os → s.heap.objs.size ≤ p → s1.heap.get? p = some (seqObj "list" out.toArray c) → Vals K.srt.vs out → Q (.ref p) s1) :
    wpAny (model P w) A (call (.builtin "sorted") [r]) Q E s := by
  refine Calls.call_function_entry kind_sorted plain_sorted entry_sorted (args_sorted1 _) ?_
  unfold Builtin.«sorted»
  refine wpAny_bind (m := checkCount "sorted" 1 1 _) (wpAny_pure (wpAny_bind (hc _ _ fun s1 us K' k1 k2 k3 k4 ru es el => ?_)))
  have ul : us.length = K.len := by
    rw [← ru.length, ← el]
    cases K' <;> simp [Kl.vs, Kl.len]
  refine wpAny_bind (wpAny_newList ?_ (by omega))
  have new : (s1.heap.push (seqObj "list" us.toArray 0)).get? s1.heap.objs.size = some (seqObj "list" us.toArray 0) := Heap.get?_push_size _ rfl
  refine wpAny_bind (wpAny_holding (sort_kl (A := A.in1) (K := K') new ru (by omega) (by show A.units + 1 + 1 < cLine; omega) fun out ro => ?_))
  obtain ⟨c, hc'⟩ := sortedHeap_at (vs := us) (out := out.toArray) new
  rw [es] at ro
  refine wpAny_pure ⟨_, rfl, hQ _ s1.heap.objs.size out c (fun b o z => ?_) k3 k4 k2 hc' ro⟩
  have z' := k1 b o z
  have lt := Heap.lt_size z'
  show (sortedHeap (s1.heap.push (seqObj "list" us.toArray 0)) s1.heap.objs.size us out.toArray).get? b = some o
  rw [sortedHeap_old (Nat.ne_of_lt lt) (by rw [size_push']; exact Nat.lt_succ_of_lt lt)]
  exact Heap.get?_push_of_some _ z'
/-- the items of a list or a tuple -/
theorem collect_row (tp : Bool) {l : Addr} {us : List Value} {Q : List Value → Shared → Prop} (hl : SHas tp s.heap l us.toArray) (hz : us.length ≤ sizeLine)
    (h : Q us { s with heap := (s.heap.push (seqObj "list" #[] 0)).update s.heap.objs.size (Obj.mapSeq (· ++ us.toArray)) }) : wpAny (model P w) A (collect (.ref l)) Q E s := by
  cases tp with
  | false => exact collect_list (show s.heap.IsList l us.toArray from hl) h hz
  | true =>
    obtain ⟨o, ho, hc, n, hd⟩ := (show s.heap.IsTuple l us.toArray from hl)
    unfold collect
    refine wpAny_bind (wpAny_runValue (codeAny_builtin entry_proto_collect' ?_))
    show wpAny _ _ (do again (.builtin "list.__iadd__" ⟨[← newList [], .ref l], []⟩)) _ _ s
    refine wpAny_bind (wpAny_newList (wpAny_pure ⟨Code.quiet_builtin _ (by decide +kernel), codeAny_builtin entry_list_iadd' ?_⟩))
    show wpAny _ _ (Builtin.List.listExtendWith (.ref s.heap.objs.size) (.ref l) (.ref s.heap.objs.size)) _ _ { s with heap := s.heap.push (seqObj "list" #[] 0) }
    unfold Builtin.List.listExtendWith
    have old : (s.heap.push (seqObj "list" #[] 0)).get? l = some o := Heap.get?_push_of_some _ ho
    have new : (s.heap.push (seqObj "list" #[] 0)).get? s.heap.objs.size = some (seqObj "list" #[] 0) := Heap.get?_push_size _ rfl
    refine wpAny_bind (wpAny_typeOf (T := "tuple") ⟨o, old, hc⟩ ?_)
    have yes : (Value.type "tuple" == Value.type "tuple") = true := by rfl
    rw [if_pos (by rw [yes]; simp)]
    refine wpAny_bind (listItems_at old hd (wpAny_bind (listItems_at (xs := #[]) (n := 0) new rfl ?_)))
    rw [if_neg (by simp)]
    refine wpAny_bind (listUpdate_at (xs := #[]) (n := 0) new rfl (wpAny_pure ?_) (Nat.zero_le _) (by show (#[] ++ us.toArray).size ≤ sizeLine + 1; simp only [Array.size_append, List.size_toArray, List.length_nil]; omega))
    show wpAny (model P w) A (do
      let o ← load s.heap.objs.size
      match o.data with
      | .seq xs _ => pure xs.toList
      | _ => unsupported "internal:collect") Q E { s with heap := (s.heap.push (seqObj "list" #[] 0)).update s.heap.objs.size (Obj.mapSeq (· ++ us.toArray)) }
    refine wpAny_bind (wpAny_load (get?_update_seq new _) ?_)
    show wpAny _ _ (pure ((#[] : Array Value) ++ us.toArray).toList) Q E _
    rw [show ((#[] : Array Value) ++ us.toArray).toList = us by simp]
    exact wpAny_pure h
end
end PV
set_option Elab.async false
set_option linter.all false
set_option autoImplicit false
set_option maxRecDepth 100000
set_option maxHeartbeats 2000000
/-! PV: set(row), counted or sorted. -/
namespace PV
open PySem PySem.Spec PyProof.Rows L2
def dd {α : Type} [DecidableEq α] (xs : List α) : List α := xs.foldl (fun acc x => if x ∈ acc then acc else x :: acc) []
def Kl.dst : Kl → Kl
  | .nums ns => .nums (dd ns)
  | .txts xs => .txts (dd xs)
theorem dd_fold {α : Type} [DecidableEq α] (f : α → Key) (hf : ∀ a b, f a = f b → a = b) : ∀ (xs acc : List α), (xs.map f).foldl insK (acc.map f) = (xs.foldl (fun acc x => if x ∈ acc then acc else x :: acc) acc).map f
  | [], acc => rfl
  | x :: xs, acc => by
    rw [List.map_cons, List.foldl_cons, List.foldl_cons, ← dd_fold f hf xs]
    congr 1
    unfold insK
    have e : f x ∈ acc.map f ↔ x ∈ acc := by
      rw [List.mem_map]
      exact ⟨fun ⟨y, h1, h2⟩ => by rw [← hf _ _ h2]; exact h1, fun h => ⟨x, h, rfl⟩⟩
    by_cases h : x ∈ acc
    · rw [if_pos (e.mpr h), if_pos h]
    · rw [if_neg fun z => h (e.mp z), if_neg h]; rfl
theorem dset_dst (K : Kl) : dsetK K.ks = K.dst.ks := by
  cases K with
  | nums ns => exact dd_fold Sum.inl (fun a b h => Sum.inl.inj h) ns []
  | txts xs => exact dd_fold Sum.inr (fun a b h => Sum.inr.inj h) xs []
theorem ks_len (K : Kl) : K.ks.length = K.len := by cases K <;> simp [Kl.ks, Kl.len]
theorem keys_of {P : Program} {w : World} {K : Kl} {us : List Value} (r : Vals K.vs us) : KeysAre P w us K.ks := by
  refine ⟨?_, fun i u hu => ?_⟩
  · rw [← r.length]
    cases K <;> simp [Kl.vs, Kl.ks]
  · cases K with
    | nums ns =>
      have hi : i < ns.length := by have := (List.getElem?_eq_some_iff.mp hu).1; rw [← r.length] at this; simpa [Kl.vs] using this
      obtain ⟨u', e, t, e2⟩ := r.get (i := i) (x := .int ns[i]) (by simp [Kl.vs, hi])
      rw [hu] at e
      obtain rfl := Option.some.inj e
      subst e2
      exact ⟨.inl ns[i], by simp [Kl.ks, hi], keyIs_int ns[i] t, rfl⟩
    | txts xs =>
      have hi : i < xs.length := by have := (List.getElem?_eq_some_iff.mp hu).1; rw [← r.length] at this; simpa [Kl.vs] using this
      obtain ⟨u', e, t, e2⟩ := r.get (i := i) (x := .str xs[i]) (by simp [Kl.vs, hi])
      rw [hu] at e
      obtain rfl := Option.some.inj e
      subst e2
      exact ⟨.inr xs[i], by simp [Kl.ks, hi], keyIs_str xs[i] t, rfl⟩
def vKey (v : Value) : Key := kOf (0, v)
def pI : Key → Int
  | .inl i => i
  | _ => 0
def pS : Key → Str
  | .inr x => x
  | _ => ""
/-- members in any order -/
theorem kl_of_perm {P : Program} {w : World} {K : Kl} {us : List Value} (h : ∀ v ∈ us, (mixKind P w).is (vKey v) v = true) (p : (us.map vKey).Perm K.ks) : ∃ K' : Kl, Vals K'.vs us ∧ K'.srt = K.srt ∧ K'.len = K.len := by
  cases K with
  | nums ns =>
    have all : ∀ v ∈ us, ∃ i t, v = .int i t ∧ pI (vKey v) = i := fun v hv => by
      have m : vKey v ∈ ns.map (Sum.inl : Int → Key) := p.mem_iff.mp (List.mem_map.mpr ⟨v, hv, rfl⟩)
      rcases keyIs_shape (h v hv) with ⟨i, t, e1, e2⟩ | ⟨x, t, e1, e2⟩
      · subst e2; exact ⟨i, t, rfl, rfl⟩
      · rw [e1] at m
        obtain ⟨_, _, z⟩ := List.mem_map.mp m
        cases z
    refine ⟨.nums (us.map fun v => pI (vKey v)), ?_, ?_, ?_⟩
    · show Vals ((us.map fun v => pI (vKey v)).map V.int) us
      clear p h
      induction us with
      | nil => exact .nil
      | cons v us ih =>
        obtain ⟨i, t, e1, e2⟩ := all v (.head _)
        refine .cons ?_ (ih fun v hv => all v (.tail _ hv))
        show L2.RelV (V.int (pI (vKey v))) v
        rw [e2]
        exact ⟨t, e1⟩
    · have q := p.map pI
      rw [List.map_map] at q
      have e : (Kl.nums ns).ks.map pI = ns := by simp [Kl.ks, Function.comp_def, pI]
      rw [e] at q
      exact congrArg Kl.nums (srtI_perm q)
    · have q := p.length_eq
      simpa [Kl.len, Kl.ks] using q
  | txts xs =>
    have all : ∀ v ∈ us, ∃ x t, v = .str x t ∧ pS (vKey v) = x := fun v hv => by
      have m : vKey v ∈ xs.map (Sum.inr : Str → Key) := p.mem_iff.mp (List.mem_map.mpr ⟨v, hv, rfl⟩)
      rcases keyIs_shape (h v hv) with ⟨i, t, e1, e2⟩ | ⟨x, t, e1, e2⟩
      · rw [e1] at m
        obtain ⟨_, _, z⟩ := List.mem_map.mp m
        cases z
      · subst e2; exact ⟨x, t, rfl, rfl⟩
    refine ⟨.txts (us.map fun v => pS (vKey v)), ?_, ?_, ?_⟩
    · show Vals ((us.map fun v => pS (vKey v)).map V.str) us
      clear p h
      induction us with
      | nil => exact .nil
      | cons v us ih =>
        obtain ⟨i, t, e1, e2⟩ := all v (.head _)
        refine .cons ?_ (ih fun v hv => all v (.tail _ hv))
        show L2.RelV (V.str (pS (vKey v))) v
        rw [e2]
        exact ⟨t, e1⟩
    · have q := p.map pS
      rw [List.map_map] at q
      have e : (Kl.txts xs).ks.map pS = xs := by simp [Kl.ks, Function.comp_def, pS]
      rw [e] at q
      exact congrArg Kl.txts (srtS_perm q)
    · have q := p.length_eq
      simpa [Kl.len, Kl.ks] using q
/-- the set at a -/
def SetW (P : Program) (w : World) (a : Addr) (ks : List Key) : HO := .ext fun h => WS P w h a ks
section
variable {X : Cx}
theorem setW_new {w : World} {P : Program} {H : Hp} {h : Heap} {a : Addr} {ks : List Key} (r : WS P w h a ks) : ObjOk P w H h a (SetW P w a ks) := by
  have ⟨ob, _, _, _, h1, _⟩ := r
  exact ⟨r, ⟨ob, h1⟩, fun _ _ p k => WS.keep p k⟩
def rSetRow (P : Program) (w : World) (K : Frg) : List V → Hp → VK → Prop := fun vs H Q => ∃ tp a L, vs = [.ref a] ∧ Sqb tp K H a (Kl.vs L) ∧ L.len + 1 < scanBound ∧ ∀ p, H p = none → Q (.ref p) (upd H p (SetW P w p (dsetK L.ks)))
theorem cr_setRow (hc : X.calm = true) : CallR X (.type "set") (rSetRow X.prog X.w X.K) := by
  intro pins s σ H vs us Q I r ⟨tp, a, L, e, hs, hz, q⟩
  subst e
  rw [Vals.ref1 r]
  obtain ⟨its, rv, has⟩ := hs.at I
  refine call_setS tp (I.ok.hd hc) has (keys_of rv) (by rw [ks_len]; exact hz) fun h' tk x keep => ?_
  exact ⟨.ref _, _, I.laid (t' := tk) (o := SetW X.prog X.w s.heap.objs.size (dsetK L.ks)) keep (Nat.le_refl _) (setW_new x), rfl, q _ (I.hok.fresh (Nat.le_refl _))⟩
def rLenW (P : Program) (w : World) : List V → Hp → VK → Prop := fun vs H Q => ∃ a ks, vs = [.ref a] ∧ H a = some (SetW P w a ks) ∧ Q (.int (ks.length : Nat)) H
theorem cr_lenW : CallR X (.builtin "len") (rLenW X.prog X.w) := by
  intro pins s σ H vs us Q I r ⟨a, ks, e, ha, q⟩
  subst e
  rw [Vals.ref1 r]
  obtain ⟨ob, tab, ep, t, h1, h2, h3, g, p, nd, hb, hf, lv⟩ := (show WS X.prog X.w s.heap a ks from (I.hok a _ ha).1)
  have el : tab.size = ks.length := by
    have z := p.length_eq
    simpa using z
  have sb : scanBound = 4096 := rfl
  refine call_len_set h1 h2 h3 hf (by omega) ?_
  rw [el]
  exact ⟨.int (ks.length : Nat), H, (I.tok _), ⟨_, rfl⟩, q⟩
def rSortW (P : Program) (w : World) : List V → Hp → VK → Prop := fun vs H Q => ∃ a L, vs = [.ref a] ∧ H a = some (SetW P w a (Kl.ks L)) ∧ ∀ p, H p = none → Q (.ref p) (upd H p (.lst L.srt.vs))
theorem srt_len (L : Kl) : L.srt.vs.length = L.len := by cases L <;> simp [Kl.srt, Kl.vs, Kl.len]
theorem cr_sortW (hc : X.calm = true) (hu : X.A.units + 2 < cLine) : CallR X (.builtin "sorted") (rSortW X.prog X.w) := by
  intro pins s σ H vs us Q I r ⟨a, L, e, ha, q⟩
  subst e
  rw [Vals.ref1 r]
  obtain ⟨ob, tab, ep, t, h1, h2, h3, g, p, nd, hb, hf, lv⟩ := (show WS X.prog X.w s.heap a L.ks from (I.hok a _ ha).1)
  have el : tab.size = L.len := by
    have z := p.length_eq
    rw [ks_len] at z
    simpa using z
  have sb : scanBound = 4096 := rfl
  have hz : L.len ≤ sizeLine := by rw [sizeLine_eq]; omega
  have hd : X.A.in1.handled = none := by simpa using I.ok.hd hc
  refine sorted_by (K := L) hz hu (fun E' Q' fin => collect_set hd ⟨ob, h1, h2.1, h3⟩ hf hb lv.1 lv.2 fun s1 out k1 k2 k3 k4 pm => ?_) fun s1 p0 out c k1 k2 k3 k4 k5 ro => ?_
  · have isk : ∀ v ∈ out, (mixKind X.prog X.w).is (vKey v) v = true := fun v hv => by
      obtain ⟨e, he, ev⟩ := List.mem_map.mp (pm.mem_iff.mp hv)
      subst ev
      exact (g e he).1
    have pk : (out.map vKey).Perm L.ks := by
      have z := pm.map vKey
      rw [List.map_map] at z
      exact z.trans p
    obtain ⟨K', v1, v2, v3⟩ := kl_of_perm isk pk
    exact fin s1 out K' k1 k2 k3 k4 v1 v2 v3
  · have hn : H p0 = none := I.hok.fresh k4
    have hl : L.srt.vs.length ≤ sizeLine := by rw [srt_len]; exact hz
    have J : Inv X pins σ (upd H p0 (.lst L.srt.vs)) { s with heap := s1.heap, gens := s1.gens, drawn := s1.drawn, toks := s1.toks } :=
      I.call (ch := []) (Un.laid k1 k4 hn) (I.hok.laid k1 k4 ⟨hl, out, c, ro, k5⟩) (by rw [k2]; exact I.bare) (fun _ z => nomatch z)
    have e : s1 = { s with heap := s1.heap, gens := s1.gens, drawn := s1.drawn, toks := s1.toks } := by
      cases s1
      cases s
      cases k3
      rfl
    rw [e]
    exact ⟨.ref p0, _, J, rfl, q p0 hn⟩
/-- sorted(row) -/
def rSortRow (K : Frg) : List V → Hp → VK → Prop := fun vs H Q => ∃ tp a L, vs = [.ref a] ∧ Sqb tp K H a (Kl.vs L) ∧ L.len ≤ sizeLine ∧ ∀ p, H p = none → Q (.ref p) (upd H p (.lst L.srt.vs))
theorem cr_sortRow (hu : X.A.units + 2 < cLine) : CallR X (.builtin "sorted") (rSortRow X.K) := by
  intro pins s σ H vs us Q I r ⟨tp, a, L, e, hs, hz, q⟩
  subst e
  rw [Vals.ref1 r]
  obtain ⟨its, rv, has⟩ := hs.at I
  have il : its.length = L.len := by rw [← rv.length]; cases L <;> simp [Kl.vs, Kl.len]
  refine sorted_by (K := L) hz hu (fun E' Q' fin => collect_row tp has (by omega) (fin _ its L (fun b o z => ?_) ?_ rfl rfl rv rfl rfl)) fun s1 p0 out c k1 k2 k3 k4 k5 ro => ?_
  · have lt := Heap.lt_size z
    show ((s.heap.push (seqObj "list" #[] 0)).update s.heap.objs.size (Obj.mapSeq (· ++ its.toArray))).get? b = some o
    rw [Heap.get?_update_ne _ _ _ _ (Nat.ne_of_lt lt)]
    exact Heap.get?_push_of_some _ z
  · show s.heap.objs.size ≤ ((s.heap.push (seqObj "list" #[] 0)).update s.heap.objs.size (Obj.mapSeq (· ++ its.toArray))).objs.size
    rw [Heap.size_update, size_push']
    exact Nat.le_succ _
  · have hn : H p0 = none := I.hok.fresh k4
    have hl : L.srt.vs.length ≤ sizeLine := by rw [srt_len]; exact hz
    have J : Inv X pins σ (upd H p0 (.lst L.srt.vs)) { s with heap := s1.heap, gens := s1.gens, drawn := s1.drawn, toks := s1.toks } :=
      I.call (ch := []) (Un.laid k1 k4 hn) (I.hok.laid k1 k4 ⟨hl, out, c, ro, k5⟩) (by rw [k2]; exact I.bare) (fun _ z => nomatch z)
    have e : s1 = { s with heap := s1.heap, gens := s1.gens, drawn := s1.drawn, toks := s1.toks } := by
      cases s1
      cases s
      cases k3
      rfl
    rw [e]
    exact ⟨.ref p0, _, J, rfl, q p0 hn⟩
end
end PV
set_option Elab.async false
set_option linter.all false
set_option autoImplicit false
set_option maxRecDepth 100000
set_option maxHeartbeats 2000000
/-! PV: tuple(text). -/
namespace PV
open PySem PySem.Spec PyProof.Rows L2
/-- the signs of a text -/
def signsV (x : Str) : List V := x.cps.toList.map fun c => V.str ⟨#[c]⟩
section
variable {prog : Program} {w : World} {A : Around} {E : Value → Shared → Prop} {s : Shared}
theorem signs_vals {x : Str} {acc : Array Value} (h : ItemsOf (SignAt x) acc x.cps.size) : Vals (signsV x) acc.toList := by
  refine vals_of_at ?_ fun j y u h1 h2 => ?_
  · unfold signsV
    rw [List.length_map, Array.length_toList, Array.length_toList]
    exact h.1.symm
  · unfold signsV at h1
    rw [List.getElem?_map] at h1
    cases q : x.cps.toList[j]? with
    | none => rw [q] at h1; cases h1
    | some c =>
      rw [q] at h1
      have h1 : V.str ⟨#[c]⟩ = y := Option.some.inj h1
      subst h1
      have z := h.2 j u (by rw [← h2, Array.getElem?_toList])
      obtain ⟨c', t, e1, e2⟩ := z
      have q' : x.cps[j]? = some c := by rw [← q, Array.getElem?_toList]
      rw [q'] at e1
      cases e1
      exact ⟨t, e2⟩
theorem new_tuple_text {Q₁ : Value → Shared → Prop} (hh : A.handled = none) (x : Str) (t : Tok) (hn : x.cps.size ≤ sizeLine)
    (h : ∀ (s' : Shared) (acc : Array Value), (∀ b o, s.heap.get? b = some o → s'.heap.get? b = some o) → s'.gens = s.gens → s'.drawn = s.drawn → s'.os = s.os → Vals (signsV x) acc.toList →
      Q₁ (.ref s'.heap.objs.size) { s' with heap := s'.heap.push { cls := .type "tuple", data := .seq acc } }) :
    codeAny (model prog w) A (.call (.builtin "tuple.__new__") ⟨[.type "tuple", .str x t], []⟩) (wants Q₁ E) s := by
  refine codeAny_of_tree ?_
  show wpAny _ A.in1 (checkBuiltinCall "tuple.__new__" ⟨[.type "tuple", .str x t], []⟩ >>= fun _ => again (.builtin "tuple.__new__" ⟨[.type "tuple", .str x t], []⟩)) _ _ s
  refine wpAny_bind (wpAny_of_eq (F.newCall_tuple_1 _) ?_)
  refine wpAny_pure ⟨plainId_quiet F.plain_tuple_new _, codeAny_builtin F.entry_tuple_new ?_⟩
  rw [Around.under_plainId F.plain_tuple_new _]
  have f1 := sub_tuple_self
  have f2 := init_tuple_lookup
  have f3 := madeHere_tuple
  have f4 : s.TypeIs (.str x t) "str" := rfl
  have f5 : A.in1.handled = none := hh
  wp_walk using wpAny_typeOf f4, wpAny_collect_str (A := A.in1) (hn := hn) f5 x t
  intro s' acc k g1 g2 g3 hacc
  have e : acc.toList.toArray = acc := by simp
  show wpAny _ _ (Builtin.Tuple.tupleExact acc.toList.toArray >>= fun v => ret v) _ _ _
  rw [e]
  unfold Builtin.Tuple.tupleExact
  refine wpAny_bind (wpAny_newObj_type ?_ (by show acc.size ≤ sizeLine; rw [hacc.1]; exact hn))
  exact wpAny_pure (h s' acc k g1 g2 g3 (signs_vals hacc))
theorem call_tuple_text {Q : Value → Shared → Prop} (hh : A.handled = none) (x : Str) (t : Tok) (hn : x.cps.size ≤ sizeLine)
    (hQ : ∀ (s' : Shared) (acc : Array Value), (∀ b o, s.heap.get? b = some o → s'.heap.get? b = some o) → s'.gens = s.gens → s'.drawn = s.drawn → s'.os = s.os → Vals (signsV x) acc.toList →
      Q (.ref s'.heap.objs.size) { s' with heap := s'.heap.push { cls := .type "tuple", data := .seq acc } }) :
    wpAny (model prog w) A (call (.type "tuple") [.str x t]) Q E s := by
  refine callType_codes (Q₁ := fun obj s₁ => s₁.TypeIs obj "tuple" ∧ Q obj s₁) F.called_tuple (F.typeCall_tuple_1 _) F.entry_object_init
    (new_tuple_text (A := A.in1) hh x t hn fun s' acc k g1 g2 g3 hacc => ⟨⟨_, Heap.get?_push_size _ rfl, rfl⟩, hQ s' acc k g1 g2 g3 hacc⟩) fun ob s1 ⟨k1, k2⟩ => ?_
  refine ⟨k1, F.args_object_init_2 ob _, ?_⟩
  exact object_init_meets F.called_tuple.init.lookup F.called_tuple.made (by decide) prog w A.in1 _ s1 ⟨k1, rfl, k2⟩
end
theorem call_tupleS {X : Cx} (hc : X.calm = true) : CallR X (.type "tuple") (fun xs H Q => ∃ x : Str, xs = [.str x] ∧ x.cps.size ≤ sizeLine ∧ ∀ l, H l = none → Q (.ref l) (upd H l (.tup (signsV x)))) := by
  intro pins s σ H xs us Q I r ⟨x, e, hn, q⟩
  subst e
  obtain ⟨u, e, rx⟩ := vals1 r
  subst e
  obtain ⟨t, e⟩ := rx
  subst e
  refine call_tuple_text (I.ok.hd hc) x t hn fun s' acc k g1 g2 g3 hacc => ?_
  obtain ⟨h', g', d', tk', os'⟩ := s'
  obtain rfl : g' = s.gens := g1
  obtain rfl : d' = s.drawn := g2
  obtain rfl : os' = s.os := g3
  have I1 : Inv X pins σ H { s with heap := h', toks := tk' } := I.kept k
  have hz : (signsV x).length ≤ sizeLine := by unfold signsV; rw [List.length_map, Array.length_toList]; exact hn
  have I2 := I1.laid (t' := tk') (a := h'.objs.size) (o := .tup (signsV x)) (h' := h'.push { cls := .type "tuple", data := .seq acc }) (fun b o e => Heap.get?_push_of_some _ e) (Nat.le_refl _)
    ⟨hz, acc.toList, hacc, by rw [Array.toArray_toList]; exact IsTup.new _ _⟩
  exact ⟨.ref h'.objs.size, _, I2, rfl, q _ (I1.hok.fresh (Nat.le_refl _))⟩
end PV
set_option Elab.async false
set_option linter.all false
set_option autoImplicit false
set_option maxRecDepth 100000
/-! PV: the small language, read without a heap. -/
namespace PV
open PySem PySem.Spec PyProof.Rows L2

/-- what may change: a list, a dict -/
inductive Mv where
  | lst (xs : List D)
  | dct (kvs : List (Key × D))
def Mv.d : Mv → D
  | .lst xs => .list xs
  | .dct kvs => .dict (kvs.map fun p => (kD p.1, p.2))
structure Exn where
  cls : Str
  fs : List (Str × D)
/-- what stands still and is no data: a caught error -/
inductive Still where
  | exn (e : Exn)
/-- a name's place: nothing, data that stands still, a thing of one's own (some k: the k-th argument's) -/
inductive Slot where
  | non
  | val (d : D)
  | own (pin : Option Nat) (m : Mv)
  | st (t : Still)
/-- a value at hand: data, a new thing, the thing of a slot -/
inductive Rv where
  | val (d : D)
  | fr (m : Mv)
  | bor (i : Nat)
  | st (t : Still)
inductive Res (α : Type) where
  | ok (a : α) (ρ : List Slot)
  | exc (e : Exn) (ρ : List Slot)
  | stuck
abbrev M (α : Type) := List Slot → Res α
def M.bind {α β : Type} (m : M α) (f : α → M β) : M β := fun ρ => match m ρ with
  | .ok a ρ' => f a ρ'
  | .exc e ρ' => .exc e ρ'
  | .stuck => .stuck
def M.pure {α : Type} (a : α) : M α := fun ρ => .ok a ρ
instance : Monad M where
  pure := M.pure
  bind := M.bind
def stuckM {α : Type} : M α := fun _ => .stuck
/-- what a def hands back -/
inductive FR where
  | ok (r : Rv) (as : List Slot)
  | exc (e : Exn) (as : List Slot)
  | stuck
/-- a def's meaning: positional values, the keywords' data by name -/
abbrev FSem := List Slot → List (Str × D) → FR

/-! ### slots -/
def cont (ρ : List Slot) : Rv → Option D
  | .val d => some d
  | .fr m => some m.d
  | .st _ => none
  | .bor i => match ρ[i]? with
    | some (.val d) => some d
    | some (.own _ m) => some m.d
    | _ => none
/-- the content -/
def peek (r : Rv) : M D := fun ρ => match cont ρ r with
  | some d => .ok d ρ
  | none => .stuck
def peeks : List Rv → M (List D)
  | [] => M.pure []
  | r :: rs => M.bind (peek r) fun d => M.bind (peeks rs) fun ds => M.pure (d :: ds)
/-- a thing of one's own stands still from now on -/
def frz (r : Rv) : M D := fun ρ => match r with
  | .val d => .ok d ρ
  | .fr m => .ok m.d ρ
  | .st _ => .stuck
  | .bor i => match ρ[i]? with
    | some (.val d) => .ok d ρ
    | some (.own none m) => .ok m.d (ρ.set i (.val m.d))
    | _ => .stuck
def frzs : List Rv → M (List D)
  | [] => M.pure []
  | r :: rs => M.bind (frz r) fun d => M.bind (frzs rs) fun ds => M.pure (d :: ds)
def isPin : Option Slot → Bool
  | some (.own (some _) _) => true
  | _ => false
/-- a name is stored -/
def store (i : Nat) (r : Rv) : M Unit := fun ρ => if isPin ρ[i]? then .stuck else match r with
  | .fr m => .ok () (ρ.set i (.own none m))
  | .st t => .ok () (ρ.set i (.st t))
  | r => match frz r ρ with
    | .ok d ρ' => if isPin ρ'[i]? then .stuck else .ok () (ρ'.set i (.val d))
    | .exc e ρ' => .exc e ρ'
    | .stuck => .stuck

/-! ### operations on data -/
/-- a dict's key -/
def keyD : D → Option Key
  | .int i => some (.inl i)
  | .str x => some (.inr x)
  | _ => none
def isKD (k : Key) : D → Bool
  | .int j => match k with | .inl i => decide (i = j) | .inr _ => false
  | .str y => match k with | .inl _ => false | .inr x => decide (x = y)
  | _ => false
def dgetD (kvs : List (D × D)) (k : Key) : Option D := (kvs.find? fun p => isKD k p.1).map (·.2)
def putKD (kvs : List (Key × D)) (k : Key) (d : D) : List (Key × D) := if (kvs.any fun p => decide (p.1 = k)) = true then kvs.map (fun p => if p.1 = k then (p.1, d) else p) else kvs ++ [(k, d)]
def dicHas (kvs : List (D × D)) (a : D) : Option Bool := (keyD a).map fun k => (dgetD kvs k).isSome
def smallI (i : Int) : Bool := decide (-(2 ^ 64) < i) && decide (i < 2 ^ 64)
inductive BO where
  | add | sub | mul | fdiv | mod | pow
  deriving DecidableEq
def fitsL (n : Nat) : Bool := decide (n ≤ sizeLine)
def b2 (k : Bool) : Int := if k then 1 else 0
def binV : BO → D → D → Option Rv
  | .add, .int i, .int j => some (.val (.int (i + j)))
  | .add, .int i, .bool k => some (.val (.int (i + b2i k)))
  | .add, .str x, .str y => if fitsL (x.length + y.length) then some (.val (.str (x ++ y))) else none
  | .add, .tuple xs, .tuple ys => if fitsL (xs.length + ys.length) then some (.val (.tuple (xs ++ ys))) else none
  | .add, .list xs, .list ys => if fitsL (xs.length + ys.length) then some (.fr (.lst (xs ++ ys))) else none
  | .sub, .int i, .int j => some (.val (.int (i - j)))
  | .mul, .int i, .int j => if smallI i || smallI j then some (.val (.int (i * j))) else none
  | .mul, .tuple xs, .int k => if decide (-(2 ^ 62) < k) && decide (k < 2 ^ 62) && decide (xs.length * k.toNat ≤ 1000000) then some (.val (.tuple (List.replicate k.toNat xs).flatten)) else none
  | .mul, .str x, .int k => if decide (-(2 ^ 62) < k) && decide (k < 2 ^ 62) && decide (x.length * k.toNat ≤ 1000000) then some (.val (.str ⟨(List.replicate k.toNat x.cps.toList).flatten.toArray⟩)) else none
  | .fdiv, .int i, .int j => if decide (0 < j) && decide (j < 1073741824) then some (.val (.int (i / j))) else none
  | .mod, .int i, .int j => if decide (0 < j) then some (.val (.int (i % j))) else none
  | .pow, .int i, .int j => if decide (0 ≤ j) && decide (j ≤ 1000000) && decide (i.natAbs < 2 ^ 64) then some (.val (.int (i ^ j.toNat))) else none
  | _, _, _ => none
/-- a op= b -/
def iopV : BO → D → D → Option D
  | .add, .int i, .int j => some (.int (i + j))
  | .sub, .int i, .int j => some (.int (i - j))
  | .add, .str x, .str y => if fitsL (x.length + y.length) then some (.str (x ++ y)) else none
  | _, _, _ => none
inductive CO where
  | eq | ne | lt | le | gt | ge | is | isnot | isin | notin
  deriving DecidableEq
def isScalar : D → Bool
  | .none | .bool _ | .int _ | .str _ => true
  | _ => false
def hasD (d : D) (ds : List D) : Bool := ds.any fun z => PyData.eqv z d
def bothS : D → D → Bool
  | .str _, .str _ => true
  | _, _ => false
def cmpV : CO → D → D → Option Bool
  | .eq, a, b => if bothS a b || (SeqAt.shaped a && SeqAt.shaped b) || eqD a b then some (PyData.eqv a b) else none
  | .ne, a, b => if bothS a b || (SeqAt.shaped a && SeqAt.shaped b) || neD a b then some (!PyData.eqv a b) else none
  | .lt, .int i, .int j => some (decide (i < j))
  | .lt, .str i, .str j => some (decide (i.cps.toList < j.cps.toList))
  | .le, .int i, .int j => some (decide (i ≤ j))
  | .gt, .int i, .int j => some (decide (j < i))
  | .ge, .int i, .int j => some (decide (j ≤ i))
  | .is, a, .none => some (match a with | .none => true | _ => false)
  | .isnot, a, .none => some (match a with | .none => false | _ => true)
  | .is, .bool a, .bool b => some (decide (a = b))
  | .isnot, .bool a, .bool b => some (!decide (a = b))
  | .isin, .str x, .str z => if x.cps.size = 1 then some (decide (x.cps[0]! ∈ z.cps.toList)) else none
  | .notin, .str x, .str z => if x.cps.size = 1 then some (!decide (x.cps[0]! ∈ z.cps.toList)) else none
  | .isin, a, .list ds => if (SeqAt.shaped a && SeqAt.shaped (.list ds)) || inD a ds then some (hasD a ds) else none
  | .notin, a, .list ds => if (SeqAt.shaped a && SeqAt.shaped (.list ds)) || inD a ds then some (!hasD a ds) else none
  | .isin, a, .tuple ds => if (isScalar a && ds.all isScalar) || inD a ds then some (hasD a ds) else none
  | .notin, a, .tuple ds => if (isScalar a && ds.all isScalar) || inD a ds then some (!hasD a ds) else none
  | .isin, a, .dict kvs => dicHas kvs a
  | .notin, a, .dict kvs => (dicHas kvs a).map (!·)
  | _, _, _ => none
def fits63 (n : Nat) : Bool := decide (n < 2 ^ 63)
def truV : D → Option Bool
  | .none => some false
  | .bool b => some b
  | .int i => some (i != 0)
  | .str x => if fitsL x.length then some ((x.length : Int) != 0) else none
  | .list xs => some (!xs.isEmpty)
  | .tuple xs => some (!xs.isEmpty)
  | .dict kvs => some (!kvs.isEmpty)
def idxV : D → D → Option D
  | .list xs, .int i => atI xs i
  | .tuple xs, .int i => atI xs i
  | .str z, .int i => if fitsL z.length then (atI z.cps.toList i).map fun c => .str ⟨#[c]⟩ else none
  | .dict kvs, a => match keyD a with | some k => dgetD kvs k | none => none
  | _, _ => none
def cutD {α : Type} (xs : List α) (lo hi : Option Int) : List α := (xs.drop (HT.sIx xs.length 0 lo)).take (HT.sIx xs.length xs.length hi - HT.sIx xs.length 0 lo)
def slcV : D → Option Int → Option Int → Option Rv
  | .list xs, lo, hi => some (.fr (.lst (cutD xs lo hi)))
  | .tuple xs, lo, hi => some (.val (.tuple (cutD xs lo hi)))
  | .str z, lo, hi => if fitsL z.length then some (.val (.str (cutS z lo hi))) else none
  | _, _, _ => none
/-- the built-ins that look at data alone -/
inductive BI where
  | len | abs | int | tuple | list | repr | str | max | min | all | any | sum | sorted
  deriving DecidableEq
mutual
def noList : D → Bool
  | .list _ => false
  | .tuple xs => noLists xs
  | .dict kvs => noListKv kvs
  | .none => true
  | .bool _ => true
  | .int _ => true
  | .str _ => true
def noLists : List D → Bool
  | [] => true
  | x :: xs => noList x && noLists xs
def noListKv : List (D × D) → Bool
  | [] => true
  | (_, x) :: xs => noList x && noListKv xs
end
def reprOk (d : D) : Bool := d.showable && decide (d.depth ≤ 64) && fitsL d.shown.length
def boolsOf : List D → Option (List Bool)
  | [] => some []
  | .bool b :: r => (boolsOf r).map (b :: ·)
  | _ :: _ => none
def intsOf : List D → Option (List Int)
  | [] => some []
  | .int b :: r => (intsOf r).map (b :: ·)
  | _ :: _ => none
def strsOf : List D → Option (List Str)
  | [] => some []
  | .str b :: r => (strsOf r).map (b :: ·)
  | _ :: _ => none
/-- numbers alone, texts alone -/
def klOf (xs : List D) : Option Kl := match intsOf xs with
  | some ns => some (.nums ns)
  | none => (strsOf xs).map Kl.txts
def maxI : List Int → Int
  | [] => 0
  | x :: xs => xs.foldl (fun a b => if b > a then b else a) x
def minI : List Int → Int
  | [] => 0
  | x :: xs => xs.foldl (fun a b => if b < a then b else a) x
def biV : BI → List D → Option Rv
  | .len, [.list xs] => some (.val (.int xs.length))
  | .len, [.tuple xs] => some (.val (.int xs.length))
  | .len, [.str x] => if fitsL x.length then some (.val (.int x.length)) else none
  | .len, [.dict xs] => some (.val (.int xs.length))
  | .abs, [.int i] => some (.val (.int (if i < 0 then -i else i)))
  | .int, [.int i] => some (.val (.int i))
  | .int, [.bool k] => some (.val (.int (if k then 1 else 0)))
  | .tuple, [.list xs] => some (.val (.tuple xs))
  | .tuple, [.tuple xs] => some (.val (.tuple xs))
  | .tuple, [.str z] => if fitsL z.length then some (.val (.tuple (z.cps.toList.map fun c => PyData.str ⟨#[c]⟩))) else none
  | .list, [.list xs] => some (.fr (.lst xs))
  | .list, [.tuple xs] => some (.fr (.lst xs))
  | .repr, [d] => if reprOk d then some (.val (.str d.shown)) else none
  | .str, [.int i] => if decide (i.natAbs.log2 < 1920) then some (.val (.str (toString i))) else none
  | .max, [.int i, .int j] => some (.val (.int (if j > i then j else i)))
  | .min, [.int i, .int j] => some (.val (.int (if j < i then j else i)))
  | .max, [.list xs] => match intsOf xs with | some (n :: ns) => some (.val (.int (maxI (n :: ns)))) | _ => none
  | .min, [.list xs] => match intsOf xs with | some (n :: ns) => some (.val (.int (minI (n :: ns)))) | _ => none
  | .all, [.list xs] => match boolsOf xs with | some bs => some (.val (.bool (bs.all id))) | none => none
  | .any, [.list xs] => match boolsOf xs with | some bs => some (.val (.bool (bs.any id))) | none => none
  | .sorted, [.list xs] => match klOf xs with | some L => if fitsL L.len then some (.fr (.lst L.srt.ds)) else none | none => none
  | .sorted, [.tuple xs] => match klOf xs with | some L => if fitsL L.len then some (.fr (.lst L.srt.ds)) else none | none => none
  | .sum, [.list xs] => match intsOf xs with | some ns => some (.val (.int ns.sum)) | none => none
  | _, _ => none
/-- built-in classes for isinstance -/
inductive Cl where
  | int | bool | str | tuple | list | dict
  deriving DecidableEq
def isaV : D → Cl → Bool
  | .int _, .int | .bool _, .int | .bool _, .bool | .str _, .str | .tuple _, .tuple | .list _, .list | .dict _, .dict => true
  | _, _ => false
/-- methods that change a thing of one's own: what it hands back, what it is then -/
inductive Me where
  | append | extend | pop | popAt | reverse | clear | insert
  deriving DecidableEq
def meV : Me → Mv → List D → Option (D × Mv)
  | .append, .lst xs, [d] => if decide (xs.length < sizeLine) then some (.none, .lst (xs ++ [d])) else none
  | .extend, .lst xs, [.list ys] => if fitsL (xs.length + ys.length) then some (.none, .lst (xs ++ ys)) else none
  | .pop, .lst xs, [] => match xs[xs.length - 1]? with | some y => some (y, .lst xs.dropLast) | none => none
  | .popAt, .lst xs, [.int i] => if decide (-(2 ^ 63) ≤ i) && decide (i < 2 ^ 63) then match seqIndex? i xs.length with
    | some k => match xs[k]? with | some y => some (y, .lst (xs.eraseIdx k)) | none => none
    | none => none else none
  | .reverse, .lst xs, [] => some (.none, .lst xs.reverse)
  | .clear, .lst _, [] => some (.none, .lst [])
  | .insert, .lst xs, [.int i, d] => if decide (xs.length < sizeLine) && decide (0 ≤ i) && decide (i < 2 ^ 63) then some (.none, .lst (xs.take i.toNat ++ [d] ++ xs.drop i.toNat)) else none
  | _, _, _ => none
def setV (m : Mv) (i v : D) : Option Mv := match m, i with
  | .lst xs, .int k => match ixN xs.length k with | some j => some (.lst (xs.set j v)) | none => none
  | .lst _, _ => none
  | .dct kvs, a => match keyD a with | some k => if decide (kvs.length < sizeLine) then some (.dct (putKD kvs k v)) else none | none => none

/-- methods that look at data alone -/
inductive DM where
  | join | sindex | scount | starts | split | lindex
  deriving DecidableEq
def dmTy : DM → D → Bool
  | .lindex, .list _ => true
  | .join, .str _ | .sindex, .str _ | .scount, .str _ | .starts, .str _ | .split, .str _ => true
  | _, _ => false
/-- the first place of an item -/
def at1 (ds : List D) (y : D) : Option Nat := ds.findIdx? fun z => PyData.eqv z y
def rowD : D → Option (List D)
  | .list xs => some xs
  | .tuple xs => some xs
  | _ => none
def dmV : DM → List D → Option Rv
  | .join, [.str a, d] => match (rowD d).bind strsOf with
    | some ys => if decide ((ys.map (·.length)).sum + ys.length * a.length ≤ 16777216) then some (.val (.str (Txt.join a ys))) else none
    | none => none
  | .sindex, [.str a, .str b] => match Builtin.Str.occurrences a b 0 a.length 1 with
    | i :: _ => some (.val (.int (i : Nat)))
    | [] => none
  | .scount, [.str a, .str b] => some (.val (.int (Txt.count a b)))
  | .starts, [.str a, .str b] => some (.val (.bool (Txt.startswith a b)))
  | .split, [.str a, .str b] => if !(b.length == 0) && decide (a.length + 2 ≤ sizeLine) then some (.fr (.lst ((Txt.split a b).map PyData.str))) else none
  | .lindex, [.list ds, y] => if SeqAt.shaped (.list ds) && SeqAt.shaped y then match at1 ds y with
      | some j => some (.val (.int (j : Nat)))
      | none => none
    else none
  | _, _ => none

/-! ### the language -/
/-- a target -/
inductive Tg where
  | nm (i : Nat)
  | tup (is : List Nat)
  /-- a, b, *rest -/
  | str (is : List Nat) (j : Nat)
mutual
inductive Ex where
  | cst (c : Const)
  | var (i : Nat)
  | glob (x : Str)
  | bin (o : BO) (a b : Ex)
  | rep (es : Exs) (k : Ex)
  | neg (a : Ex)
  | cmp (o : CO) (a b : Ex)
  | chain (o o' : CO) (a b c : Ex)
  | notv (t : Ex)
  | andv (a b : Ex)
  | orv (a b : Ex)
  | ife (t : Te) (a b : Ex)
  | tup (es : Exs)
  | lst (es : Exs)
  | idx (a i : Ex)
  | slc (a : Ex) (lo hi : Op)
  | revl (a : Ex)
  | stp (a : Ex) (lo hi st : Op)
  | sset (a : Ex)
  | lset (a : Ex)
  | call (f : Str) (es : Exs) (ks : Kws)
  | bi (b : BI) (es : Exs)
  | isa (e : Ex) (c : Cl)
  | isas (e : Ex) (cs : List Cl)
  | me (m : Me) (i : Nat) (es : Exs)
  | lc (own : List (Str × Nat)) (elt : Ex) (tg : Tg) (it : Itr') (tt : Tes)
  | tupRg (it : Itr')
  | frz (e : Ex)
  | dnew
  | dm (m : DM) (a : Ex) (es : Exs)
  | lstRg (it : Itr')
  | isx (i : Nat) (cs : List Str)
  | fld (i : Nat) (f : Str)
  /-- X[a], X a dict of the module's top -/
  | tab (x : Str) (a : Ex)
  | lc2 (own : List (Str × Nat)) (own1 : List Nat) (elt : Ex) (tg : Tg) (it : Itr') (tt : Tes) (tg1 : Tg) (e1 : Ex) (tt1 : Tes)
inductive Exs where
  | nil
  | cons (e : Ex) (es : Exs)
  | star (e : Ex) (es : Exs)
inductive Kws where
  | nil
  | cons (k : Str) (e : Ex) (es : Kws)
inductive Op where
  | no
  | yes (e : Ex)
inductive Te where
  | cmp (o : CO) (a b : Ex)
  | chain (o o' : CO) (a b c : Ex)
  | and (ts : Tes)
  | or (ts : Tes)
  | not (t : Te)
  | val (e : Ex)
  | isn (i : Nat) (neg : Bool)
inductive Tes where
  | nil
  | cons (t : Te) (ts : Tes)
inductive Itr' where
  | ex (e : Ex)
  | rg1 (e : Ex)
  | rg2 (a b : Ex)
  | enum (e : Ex)
  | zip (a b : Ex)
  | rg3 (a b c : Ex)
end
mutual
inductive St' where
  | expr (e : Ex)
  | asg (t : Tg) (e : Ex)
  | asg2 (i j : Nat) (e : Ex)
  | par (i j : Nat) (a b : Ex)
  | setI (o : Nat) (i e : Ex)
  /-- xs[lo:hi] = ys -/
  | setS (o : Nat) (lo hi : Op) (j : Nat)
  | aug (i : Nat) (o : BO) (e : Ex)
  | augI (o : Nat) (i : Ex) (op : BO) (e : Ex)
  | ret (e : Ex)
  | retN
  | ife (t : Te) (a b : Sts)
  | loop (t : Tg) (it : Itr') (b : Sts)
  | whl (t : Te) (b : Sts)
  | brk
  | cnt
  | pass
  | dead
  | raise (x : Str) (es : Exs)
  | tryx (b : Sts) (hs : Hds)
inductive Sts where
  | nil
  | cons (s : St') (ss : Sts)
/-- clauses: the classes, the error's name, the suite -/
inductive Hds where
  | nil
  | cons (names : List Str) (slot : Option Nat) (su : Sts) (r : Hds)
end

def Kws.names : Kws → List Str
  | .nil => []
  | .cons k _ es => k :: es.names

/-- how a statement ends -/
inductive Fl where
  | nx | brk | cnt
  | ret (r : Rv)

/-! ### its reading -/
/-- the defs and constants of the module -/
structure Env' where
  fn : Str → Option FSem
  gc : Str → Option D
  /-- the error classes that are raised: their fields -/
  ex : Str → Option (List Str)
  /-- is the class told first under the second -/
  sub : Str → Str → Option Bool
  /-- the dicts of the module's top -/
  tb : Str → Option (List (Str × D))
/-- an error's field -/
def fldV (Φ : Env') (e : Exn) (f : Str) : Option D := match Φ.ex e.cls with
  | some fs => if fs.contains f then e.fs.lookup f else none
  | none => none
def anySub (Φ : Env') (c : Str) : List Str → Option Bool
  | [] => some false
  | x :: xs => match Φ.sub c x, anySub Φ c xs with
    | some b, some r => some (b || r)
    | _, _ => none
def cD : Const → Option D
  | .none => some .none
  | .bool b => some (.bool b)
  | .int i => some (.int i)
  | .str s => some (.str s)
  | _ => none
def lift {α : Type} (o : Option α) : M α := fun ρ => match o with
  | some a => .ok a ρ
  | none => .stuck
/-- an argument: a thing of one's own is handed over -/
def argOf (ρ : List Slot) (k : Nat) : Rv → Option Slot
  | .val d => some (.val d)
  | .st t => some (.st t)
  | .fr m => some (.own (some k) m)
  | .bor i => match ρ[i]? with
    | some (.val d) => some (.val d)
    | some (.own _ m) => some (.own (some k) m)
    | _ => none
def argsOf (ρ : List Slot) : Nat → List Rv → Option (List Slot)
  | _, [] => some []
  | k, r :: rs => match argOf ρ k r, argsOf ρ (k + 1) rs with
    | some s, some ss => some (s :: ss)
    | _, _ => none
/-- no slot is handed over twice -/
def borNodup (ρ : List Slot) (rs : List Rv) : Bool :=
  decide ((rs.filterMap fun r => match r with | .bor i => (match ρ[i]? with | some (.own _ _) => some i | _ => none) | _ => none).Nodup)
/-- what a call left of the things handed over -/
def backOf : List Rv → List Slot → List Slot → Option (List Slot)
  | .bor i :: rs, s :: ss, ρ => match ρ[i]?, s with
    | some (.own pin _), .own _ m => backOf rs ss (ρ.set i (.own pin m))
    | some (.own _ _), _ => none
    | _, _ => backOf rs ss ρ
  | _ :: rs, _ :: ss, ρ => backOf rs ss ρ
  | [], [], ρ => some ρ
  | _, _, _ => none
def callM (S : FSem) (rs : List Rv) (ks : List Str) (ds : List D) : M Rv := fun ρ =>
  match borNodup ρ rs, argsOf ρ 0 rs with
  | true, some as =>
    match S as (ks.zip ds) with
    | .ok r as' => match backOf rs as' ρ, r with
      | some _, .bor _ => .stuck
      | some ρ', r => .ok r ρ'
      | none, _ => .stuck
    | .exc e as' => match backOf rs as' ρ with
      | some ρ' => .exc e ρ'
      | none => .stuck
    | .stuck => .stuck
  | _, _ => .stuck
/-- data alone -/
def valsOf : List Rv → Option (List D)
  | [] => some []
  | .val d :: rs => (valsOf rs).map (d :: ·)
  | _ :: _ => none
/-- items that are walked -/
abbrev Lk := List (Nat × List D)
structure Walked where
  items : List D
  lock : Lk
def itemsOf : D → Option (List D)
  | .list xs => some xs
  | .tuple xs => some xs
  | .str z => some (z.cps.toList.map fun c => .str ⟨#[c]⟩)
  | _ => none
def lockOf (ρ : List Slot) : Rv → Lk
  | .bor i => match ρ[i]? with
    | some (.own _ (.lst xs)) => [(i, xs)]
    | _ => []
  | _ => []
/-- a list or a tuple -/
def seqD : D → Option (Bool × List D)
  | .list xs => some (false, xs)
  | .tuple xs => some (true, xs)
  | _ => none
mutual
def deq : D → D → Bool
  | .none, .none => true
  | .bool a, .bool b => a == b
  | .int a, .int b => a == b
  | .str a, .str b => a == b
  | .list xs, .list ys => deqs xs ys
  | .tuple xs, .tuple ys => deqs xs ys
  | .dict xs, .dict ys => deqkv xs ys
  | _, _ => false
def deqs : List D → List D → Bool
  | [], [] => true
  | x :: xs, y :: ys => deq x y && deqs xs ys
  | _, _ => false
def deqkv : List (D × D) → List (D × D) → Bool
  | [], [] => true
  | (a, b) :: xs, (c, d) :: ys => deq a c && deq b d && deqkv xs ys
  | _, _ => false
end
/-- the lists that are walked are as they were -/
def lock1 (ρ : List Slot) (p : Nat × List D) : Bool := match ρ[p.1]? with
  | some (.own _ (.lst ys)) => deqs p.2 ys
  | _ => false
def lockOk (ρ : List Slot) (l : Lk) : Bool := l.all (lock1 ρ)
/-- a target takes an item -/
def putAll : List Nat → List D → M Unit
  | [], [] => M.pure ()
  | i :: is, d :: ds => M.bind (store i (.val d)) fun _ => putAll is ds
  | _, _ => stuckM
def putT : Tg → D → M Unit
  | .nm i, d => store i (.val d)
  | .tup is, .tuple ds => putAll is ds
  | .tup is, .list ds => putAll is ds
  | .tup _, _ => stuckM
  | .str is j, .tuple ds => if is.length ≤ ds.length then putAll (is ++ [j]) (ds.take is.length ++ [.list (ds.drop is.length)]) else stuckM
  | .str is j, .list ds => if is.length ≤ ds.length then putAll (is ++ [j]) (ds.take is.length ++ [.list (ds.drop is.length)]) else stuckM
  | .str _ _, _ => stuckM
def ownFree (ρ : List Slot) (is : List Nat) : Bool := is.all fun i => match ρ[i]? with
  | some (.own _ _) => false
  | _ => true
def wipeS (ρ : List Slot) (is : List Nat) : List Slot := is.foldl (fun r i => r.set i .non) ρ
def backS (ρ0 ρ : List Slot) (is : List Nat) : List Slot := is.foldl (fun r i => match ρ0[i]? with | some s => r.set i s | none => r) ρ
def lkOut (l : Lk) (F : List Nat) : Bool := l.all fun p => !F.contains p.1
/-- a comprehension's turns -/
def lcGo (tg : Tg) (tt : M Bool) (elt : M Rv) (lock : Lk) (own : List Nat) : List D → List D → M (List D)
  | [], acc => fun ρ => if lockOk ρ lock then .ok acc ρ else .stuck
  | d :: ds, acc => fun ρ => if lockOk ρ lock then
    match putT tg d ρ with
    | .ok _ ρ1 => match tt ρ1 with
      | .ok true ρ2 => match (M.bind elt frz) ρ2 with
        | .ok y ρ3 => if decide (acc.length < sizeLine) then lcGo tg tt elt lock own ds (acc ++ [y]) (wipeS ρ3 own) else .stuck
        | _ => .stuck
      | .ok false ρ2 => lcGo tg tt elt lock own ds acc (wipeS ρ2 own)
      | _ => .stuck
    | _ => .stuck else .stuck
def lcM (own : List Nat) (it : M Walked) (tg : Tg) (tt : M Bool) (elt : M Rv) : M Rv := M.bind it fun w => fun ρ =>
  if ownFree ρ own && lkOut w.lock own then match lcGo tg tt elt w.lock own w.items [] (wipeS ρ own) with
    | .ok acc ρ' => .ok (.fr (.lst acc)) (backS ρ ρ' own)
    | _ => .stuck
  else .stuck
/-- two fors: the outer turns; what the inner one walks stands still from then on -/
def lc2Go (tg : Tg) (tt : M Bool) (e1 : M Rv) (tg1 : Tg) (tt1 : M Bool) (elt : M Rv) (lock : Lk) (own own1 : List Nat) : List D → List D → M (List D)
  | [], acc => fun ρ => if lockOk ρ lock then .ok acc ρ else .stuck
  | d :: ds, acc => fun ρ => if lockOk ρ lock then
    match putT tg d ρ with
    | .ok _ ρ1 => match tt ρ1 with
      | .ok true ρ2 => match (M.bind e1 frz) ρ2 with
        | .ok y ρ3 => match itemsOf y with
          | some items => match lcGo tg1 tt1 elt [] own1 items acc (wipeS ρ3 own1) with
            | .ok acc' ρ4 => lc2Go tg tt e1 tg1 tt1 elt lock own own1 ds acc' (wipeS ρ4 own)
            | _ => .stuck
          | none => .stuck
        | _ => .stuck
      | .ok false ρ2 => lc2Go tg tt e1 tg1 tt1 elt lock own own1 ds acc (wipeS ρ2 own)
      | _ => .stuck
    | _ => .stuck else .stuck
def lc2M (own own1 : List Nat) (it : M Walked) (tg : Tg) (tt : M Bool) (e1 : M Rv) (tg1 : Tg) (tt1 : M Bool) (elt : M Rv) : M Rv := M.bind it fun w => fun ρ =>
  if ownFree ρ own && lkOut w.lock own then match lc2Go tg tt e1 tg1 tt1 elt w.lock own own1 w.items [] (wipeS ρ own) with
    | .ok acc ρ' => .ok (.fr (.lst acc)) (backS ρ ρ' own)
    | _ => .stuck
  else .stuck
def walkM (r : Rv) : M Walked := fun ρ => match cont ρ r with
  | some d => match itemsOf d with
    | some xs => .ok ⟨xs, lockOf ρ r⟩ ρ
    | none => .stuck
  | none => .stuck
def rgOk (a b : Int) : Bool := decide (-(2 ^ 62) ≤ a) && decide (a < 2 ^ 62) && decide (-(2 ^ 62) ≤ b) && decide (b < 2 ^ 62)
def rgD (a b : Int) : List D := (List.range (b - a).toNat).map fun i => .int (a + (i : Nat))
def rgM (a b : D) : M Walked := match a, b with
  | .int i, .int j => if rgOk i j then M.pure ⟨rgD i j, []⟩ else stuckM
  | _, _ => stuckM
def zipD (xs ys : List D) : List D := List.zipWith (fun x y => .tuple [x, y]) xs ys
def rgDn (i j : Int) : List D := (List.range (i - j).toNat).map fun k => .int (i + (k : Nat) * (-1))
def rgM3 (a b : D) (c : D) : M Walked := match a, b, c with
  | .int i, .int j, .int k => if rgOk i j && decide (k = -1) then M.pure ⟨rgDn i j, []⟩ else stuckM
  | _, _, _ => stuckM
def enumM (r : Rv) : M Walked := fun ρ => match cont ρ r with
  | some d => match seqD d with
    | some (_, xs) => .ok ⟨(List.range xs.length).map fun i => .tuple [.int (i : Nat), xs.getD i .none], lockOf ρ r⟩ ρ
    | none => .stuck
  | none => .stuck
def zipM (x y : Rv) : M Walked := fun ρ => match cont ρ x, cont ρ y with
  | some d, some e => match seqD d, seqD e with
    | some (_, xs), some (_, ys) => .ok ⟨zipD xs ys, lockOf ρ x ++ lockOf ρ y⟩ ρ
    | _, _ => .stuck
  | _, _ => .stuck
/-- sorted(set(x)), len(set(x)) -/
def ssetV (d : D) : Option Rv := match seqD d with
  | some q => match klOf q.2 with
    | some L => if decide (L.len < 4000) then some (.fr (.lst L.dst.srt.ds)) else none
    | none => none
  | none => none
def lsetV (d : D) : Option Rv := match seqD d with
  | some q => match klOf q.2 with
    | some L => if decide (L.len < 4000) then some (.val (.int L.dst.len)) else none
    | none => none
  | none => none
/-- x[lo:hi:st] -/
def stpV : D → Option Int → Option Int → Option Int → Option Rv
  | .list xs, lo, hi, some st => if decide (st ≠ 0) && decide (st ≠ 1) then some (.fr (.lst (stepX xs lo hi st))) else none
  | .tuple xs, lo, hi, some st => if decide (st ≠ 0) && decide (st ≠ 1) then some (.val (.tuple (stepX xs lo hi st))) else none
  | _, _, _, _ => none
def enumD (xs : List D) : List D := (List.range xs.length).map fun i => .tuple [.int (i : Nat), xs.getD i .none]
/-- the data an expression's value holds, when all has been reckoned -/
def val1 (o : Option D) : M Rv := M.bind (lift o) fun d => M.pure (.val d)
def bin2 {α : Type} (ma mb : M Rv) (f : D → D → M α) : M α := M.bind ma fun x => M.bind mb fun y => M.bind (peek x) fun a => M.bind (peek y) fun b => f a b
def repM (ds : List D) : D → M Rv
  | .int k => if decide (-(2 ^ 63) ≤ k) && decide (k < 2 ^ 63) && fitsL (ds.length * k.toNat) then M.pure (.fr (.lst (List.replicate k.toNat ds).flatten)) else stuckM
  | _ => stuckM
def isOwnL : Option Slot → Bool
  | some (.own _ (.lst _)) => true
  | _ => false
def isOwn : Option Slot → Bool
  | some (.own _ _) => true
  | _ => false
def ownLst : Option Slot → Option (List D)
  | some (.own _ (.lst xs)) => some xs
  | _ => none
def peekL (o : Nat) : M (List D) := fun ρ => match ownLst ρ[o]? with
  | some xs => .ok xs ρ
  | none => .stuck
def meM (m : Me) (i : Nat) (ds : List D) : M Rv := fun ρ => match ρ[i]? with
  | some (.own pin mv) => match meV m mv ds with
    | some (d, mv') => .ok (.val d) (ρ.set i (.own pin mv'))
    | none => .stuck
  | _ => .stuck
def setM (o : Nat) (k d : D) : M Fl := fun ρ => match ρ[o]? with
  | some (.own pin m) => match setV m k d with
    | some m' => .ok .nx (ρ.set o (.own pin m'))
    | none => .stuck
  | _ => .stuck
def tabV (kvs : List (Str × D)) : D → M Rv
  | .str k => match kvs.lookup k with
    | some d => M.pure (.val d)
    | none => stuckM
  | _ => stuckM
/-- xs[a:c] = ys -/
def setSl (o j : Nat) (a c : Option Int) : M Fl := fun ρ => match a, c, ρ[o]?, ρ[j]? with
  | some a, some c, some (.own pin (.lst xs)), some (.own _ (.lst ys)) => if o ≠ j ∧ 0 ≤ a ∧ a ≤ c ∧ c ≤ xs.length ∧ fitsL (xs.length + ys.length) = true then .ok .nx (ρ.set o (.own pin (.lst (xs.take a.toNat ++ ys ++ xs.drop c.toNat)))) else .stuck
  | _, _, _, _ => .stuck
def setML (o : Nat) (k d : D) : M Fl := fun ρ => if isOwnL ρ[o]? then setM o k d ρ else .stuck
mutual
def evE (Φ : Env') : Ex → M Rv
  | .cst c => val1 (cD c)
  | .var i => fun ρ => match ρ[i]? with
    | some (.val d) => .ok (.val d) ρ
    | some (.own _ _) => .ok (.bor i) ρ
    | some (.st t) => .ok (.st t) ρ
    | _ => .stuck
  | .glob x => val1 (Φ.gc x)
  | .bin o a b => bin2 (evE Φ a) (evE Φ b) fun x y => lift (binV o x y)
  | .rep es k => M.bind (evEs Φ es) fun rs => M.bind (frzs rs) fun ds => if fitsL ds.length then M.bind (evE Φ k) fun r => M.bind (peek r) fun d => repM ds d else stuckM
  | .neg a => M.bind (evE Φ a) fun r => M.bind (peek r) fun d => match d with | .int i => M.pure (.val (.int (-i))) | _ => stuckM
  | .cmp o a b => bin2 (evE Φ a) (evE Φ b) fun x y => M.bind (lift (cmpV o x y)) fun k => M.pure (.val (.bool k))
  | .chain o o' a b c => M.bind (evE Φ a) fun x => M.bind (evE Φ b) fun y => M.bind (peek x) fun dx => M.bind (peek y) fun dy => M.bind (lift (cmpV o dx dy)) fun k =>
      if k then M.bind (evE Φ c) fun z => M.bind (peek y) fun dy => M.bind (peek z) fun dz => M.bind (lift (cmpV o' dy dz)) fun k => M.pure (.val (.bool k)) else M.pure (.val (.bool false))
  | .notv a => M.bind (evE Φ a) fun r => M.bind (peek r) fun d => M.bind (lift (truV d)) fun k => M.pure (.val (.bool (!k)))
  | .andv a b => M.bind (evE Φ a) fun r => M.bind (peek r) fun d => M.bind (lift (truV d)) fun k => if k then evE Φ b else M.pure r
  | .orv a b => M.bind (evE Φ a) fun r => M.bind (peek r) fun d => M.bind (lift (truV d)) fun k => if k then M.pure r else evE Φ b
  | .ife t a b => M.bind (evT Φ t) fun k => if k then evE Φ a else evE Φ b
  | .tup es => M.bind (evEs Φ es) fun rs => M.bind (frzs rs) fun ds => if fitsL ds.length then M.pure (.val (.tuple ds)) else stuckM
  | .lst es => M.bind (evEs Φ es) fun rs => M.bind (frzs rs) fun ds => if fitsL ds.length then M.pure (.fr (.lst ds)) else stuckM
  | .idx a i => bin2 (evE Φ a) (evE Φ i) fun x y => val1 (idxV x y)
  | .slc a lo hi => M.bind (evE Φ a) fun x => M.bind (evO Φ lo) fun l => M.bind (evO Φ hi) fun h => M.bind (peek x) fun d => lift (slcV d l h)
  | .revl a => M.bind (evE Φ a) fun x => M.bind (peek x) fun d => match d with | .list xs => M.pure (.fr (.lst xs.reverse)) | _ => stuckM
  | .stp a lo hi st => M.bind (evE Φ a) fun x => M.bind (evO Φ lo) fun l => M.bind (evO Φ hi) fun h => M.bind (evO Φ st) fun t => M.bind (peek x) fun d => lift (stpV d l h t)
  | .sset a => M.bind (evE Φ a) fun x => M.bind (peek x) fun d => lift (ssetV d)
  | .lset a => M.bind (evE Φ a) fun x => M.bind (peek x) fun d => lift (lsetV d)
  | .call f es ks => match Φ.fn f with
    | some S => M.bind (evEs Φ es) fun rs => M.bind (evK Φ ks) fun zs => M.bind (lift (valsOf zs)) fun ds => callM S rs (Kws.names ks) ds
    | none => stuckM
  | .bi b es => M.bind (evEs Φ es) fun rs => M.bind (peeks rs) fun ds => lift (biV b ds)
  | .isa e c => M.bind (evE Φ e) fun r => M.bind (peek r) fun d => M.pure (.val (.bool (isaV d c)))
  | .isas e cs => M.bind (evE Φ e) fun r => M.bind (peek r) fun d => M.pure (.val (.bool (cs.any (isaV d))))
  | .me m i es => fun ρ => if isOwnL ρ[i]? then (M.bind (evEs Φ es) fun rs => M.bind (frzs rs) fun ds => meM m i ds) ρ else .stuck
  | .lc own elt tg it tt => lcM (own.map (·.2)) (evI Φ it) tg (evAnd Φ tt) (evE Φ elt)
  | .tupRg it => M.bind (evI Φ it) fun w => if fitsL w.items.length then M.pure (.val (.tuple w.items)) else stuckM
  | .frz e => M.bind (evE Φ e) fun r => M.bind (frz r) fun d => M.pure (.val d)
  | .dnew => M.pure (.fr (.dct []))
  | .dm m a es => M.bind (evE Φ a) fun r => M.bind (peek r) fun d => if dmTy m d then M.bind (evEs Φ es) fun rs => M.bind (peeks (r :: rs)) fun ds => lift (dmV m ds) else stuckM
  | .lstRg it => M.bind (evI Φ it) fun w => if fitsL w.items.length then M.pure (.fr (.lst w.items)) else stuckM
  | .tab x a => match Φ.tb x with
    | some kvs => M.bind (evE Φ a) fun r => M.bind (peek r) fun d => tabV kvs d
    | none => stuckM
  | .lc2 own own1 elt tg it tt tg1 e1 tt1 => lc2M (own.map (·.2)) own1 (evI Φ it) tg (evAnd Φ tt) (evE Φ e1) tg1 (evAnd Φ tt1) (evE Φ elt)
  | .isx i cs => fun ρ => match ρ[i]? with
    | some (.st (.exn e)) => match anySub Φ e.cls cs with
      | some b => .ok (.val (.bool b)) ρ
      | none => .stuck
    | _ => .stuck
  | .fld i f => fun ρ => match ρ[i]? with
    | some (.st (.exn e)) => match fldV Φ e f with
      | some d => .ok (.val d) ρ
      | none => .stuck
    | _ => .stuck
def evEs (Φ : Env') : Exs → M (List Rv)
  | .nil => M.pure []
  | .cons e es => M.bind (evE Φ e) fun r => M.bind (evEs Φ es) fun rs => M.pure (r :: rs)
  | .star e es => M.bind (evE Φ e) fun r => M.bind (peek r) fun d => M.bind (lift (seqD d)) fun q => M.bind (evEs Φ es) fun rs => M.pure (q.2.map Rv.val ++ rs)
def evK (Φ : Env') : Kws → M (List Rv)
  | .nil => M.pure []
  | .cons _ e es => M.bind (evE Φ e) fun r => M.bind (evK Φ es) fun rs => M.pure (r :: rs)
def evO (Φ : Env') : Op → M (Option Int)
  | .no => M.pure none
  | .yes e => M.bind (evE Φ e) fun r => M.bind (peek r) fun d => match d with | .int i => M.pure (some i) | _ => stuckM
def evT (Φ : Env') : Te → M Bool
  | .cmp o a b => bin2 (evE Φ a) (evE Φ b) fun x y => lift (cmpV o x y)
  | .chain o o' a b c => M.bind (evE Φ a) fun x => M.bind (evE Φ b) fun y => M.bind (peek x) fun dx => M.bind (peek y) fun dy => M.bind (lift (cmpV o dx dy)) fun k =>
      if k then M.bind (evE Φ c) fun z => M.bind (peek y) fun dy => M.bind (peek z) fun dz => lift (cmpV o' dy dz) else M.pure false
  | .and ts => evAnd Φ ts
  | .or ts => evOr Φ ts
  | .not t => M.bind (evT Φ t) fun k => M.pure (!k)
  | .val e => M.bind (evE Φ e) fun r => M.bind (peek r) fun d => lift (truV d)
  | .isn i neg => fun ρ => match ρ[i]? with
    | some (.st (.exn _)) => .ok neg ρ
    | some (.val d) => .ok (match d with | .none => !neg | _ => neg) ρ
    | some (.own _ _) => .ok neg ρ
    | _ => .stuck
def evAnd (Φ : Env') : Tes → M Bool
  | .nil => M.pure true
  | .cons t ts => M.bind (evT Φ t) fun k => if k then evAnd Φ ts else M.pure false
def evOr (Φ : Env') : Tes → M Bool
  | .nil => M.pure false
  | .cons t ts => M.bind (evT Φ t) fun k => if k then M.pure true else evOr Φ ts
def evI (Φ : Env') : Itr' → M Walked
  | .ex e => M.bind (evE Φ e) walkM
  | .rg1 e => M.bind (evE Φ e) fun r => M.bind (peek r) fun d => rgM (.int 0) d
  | .rg2 a b => bin2 (evE Φ a) (evE Φ b) rgM
  | .enum e => M.bind (evE Φ e) enumM
  | .zip a b => M.bind (evE Φ a) fun x => M.bind (evE Φ b) fun y => zipM x y
  | .rg3 a b c => M.bind (evE Φ a) fun x => M.bind (evE Φ b) fun y => M.bind (evE Φ c) fun z => M.bind (peek x) fun dx => M.bind (peek y) fun dy => M.bind (peek z) fun dz => rgM3 dx dy dz
end
/-- the names whose things are walked -/
def lksOf : Itr' → List Nat
  | .ex (.var i) => [i]
  | .enum (.var i) => [i]
  | .zip (.var i) (.var j) => [i, j]
  | .zip (.var i) _ => [i]
  | .zip _ (.var j) => [j]
  | _ => []
def lkIn (l : Lk) (F : List Nat) : Bool := l.all fun p => F.contains p.1
def whlFuel : Nat := 1000000
def forGo (tg : Tg) (body : M Fl) (lock : Lk) : List D → M Fl
  | [] => fun ρ => if lockOk ρ lock then .ok .nx ρ else .stuck
  | d :: ds => fun ρ => if lockOk ρ lock then match putT tg d ρ with
    | .ok _ ρ1 => match body ρ1 with
      | .ok .nx ρ2 => forGo tg body lock ds ρ2
      | .ok .cnt ρ2 => forGo tg body lock ds ρ2
      | .ok .brk ρ2 => .ok .nx ρ2
      | r => r
    | _ => .stuck else .stuck
def whlGo (t : M Bool) (body : M Fl) : Nat → M Fl
  | 0 => stuckM
  | n + 1 => M.bind t fun k => if k then (M.bind body fun f => match f with
    | .nx => whlGo t body n
    | .cnt => whlGo t body n
    | .brk => M.pure .nx
    | .ret r => M.pure (.ret r)) else M.pure .nx
mutual
def exS (Φ : Env') : St' → M Fl
  | .expr e => M.bind (evE Φ e) fun _ => M.pure .nx
  | .asg (.nm i) e => M.bind (evE Φ e) fun r => M.bind (store i r) fun _ => M.pure .nx
  | .asg (.tup is) e => M.bind (evE Φ e) fun r => M.bind (peek r) fun d => M.bind (putT (.tup is) d) fun _ => M.pure .nx
  | .asg (.str is j) e => M.bind (evE Φ e) fun r => M.bind (peek r) fun d => M.bind (putT (.str is j) d) fun _ => M.pure .nx
  | .asg2 i j e => M.bind (evE Φ e) fun r => M.bind (frz r) fun d => M.bind (store i (.val d)) fun _ => M.bind (store j (.val d)) fun _ => M.pure .nx
  | .par i j a b => M.bind (evE Φ a) fun x => M.bind (evE Φ b) fun y => M.bind (frz x) fun dx => M.bind (frz y) fun dy => M.bind (store i (.val dx)) fun _ => M.bind (store j (.val dy)) fun _ => M.pure .nx
  | .setS o lo hi j => fun ρ => if isOwn ρ[o]? && isOwn ρ[j]? then (M.bind (evO Φ lo) fun a => M.bind (evO Φ hi) fun c => setSl o j a c) ρ else .stuck
  | .setI o i e => M.bind (evE Φ e) fun r => M.bind (frz r) fun d => fun ρ => if isOwn ρ[o]? then (M.bind (evE Φ i) fun k => M.bind (peek k) fun kd => setM o kd d) ρ else .stuck
  | .aug i o e => fun ρ => match ρ[i]? with
    | some (.val x) => (M.bind (evE Φ e) fun r => M.bind (peek r) fun y => M.bind (lift (iopV o x y)) fun z => M.bind (store i (.val z)) fun _ => M.pure .nx) ρ
    | _ => .stuck
  | .augI o i op e => fun ρ => if isOwnL ρ[o]? then (M.bind (evE Φ i) fun k => M.bind (peek k) fun kd => M.bind (peekL o) fun xs => M.bind (lift (idxV (.list xs) kd)) fun x =>
      M.bind (evE Φ e) fun r => M.bind (peek r) fun y => M.bind (lift (iopV op x y)) fun z => setML o kd z) ρ else .stuck
  | .ret e => M.bind (evE Φ e) fun r => fun ρ => match r with
    | .bor i => match ρ[i]? with
      | some (.val d) => .ok (.ret (.val d)) ρ
      | some (.own none m) => .ok (.ret (.fr m)) (ρ.set i .non)
      | _ => .stuck
    | r => .ok (.ret r) ρ
  | .retN => M.pure (.ret (.val .none))
  | .ife t a b => M.bind (evT Φ t) fun k => if k then exSs Φ a else exSs Φ b
  | .loop t it b => M.bind (evI Φ it) fun w => if lkIn w.lock (lksOf it) then forGo t (exSs Φ b) w.lock w.items else stuckM
  | .whl t b => whlGo (evT Φ t) (exSs Φ b) whlFuel
  | .brk => M.pure .brk
  | .cnt => M.pure .cnt
  | .pass => M.pure .nx
  | .dead => stuckM
  | .raise x es => match Φ.ex x with
    | some fs => M.bind (evEs Φ es) fun rs => M.bind (frzs rs) fun ds => if fs.length = ds.length then (fun ρ => .exc ⟨x, (fs.zip ds).reverse⟩ ρ) else stuckM
    | none => stuckM
  | .tryx b hs => fun ρ => match exSs Φ b ρ with
    | .exc e ρ' => exH Φ e hs ρ'
    | r => r
/-- the clauses, one after another -/
def exH (Φ : Env') (e : Exn) : Hds → M Fl
  | .nil => fun ρ => .exc e ρ
  | .cons ns sl su r => match anySub Φ e.cls ns with
    | some true => match sl with
      | none => fun ρ => match exSs Φ su ρ with
        | .exc _ _ => .stuck
        | r => r
      | some i => M.bind (store i (.st (.exn e))) fun _ => fun ρ => match exSs Φ su ρ with
        | .exc _ _ => .stuck
        | .ok f ρ' => .ok f (ρ'.set i .non)
        | .stuck => .stuck
    | some false => exH Φ e r
    | none => stuckM
def exSs (Φ : Env') : Sts → M Fl
  | .nil => M.pure .nx
  | .cons s ss => M.bind (exS Φ s) fun f => match f with
    | .nx => exSs Φ ss
    | f => M.pure f
end
/-- what is left of the arguments at a def's end -/
def outArgs : Nat → List Slot → List Slot → Option (List Slot)
  | _, [], _ => some []
  | k, s :: as, ρ => match s, ρ[k]?, outArgs (k + 1) as ρ with
    | .own (some j) _, some (.own (some j') m'), some ss => if j = j' then some (.own (some j) m' :: ss) else none
    | .own _ _, _, _ => none
    | s, _, some ss => some (s :: ss)
    | _, _, none => none
def endR (as : List Slot) (r : Rv) (ρ : List Slot) : FR := match outArgs 0 as ρ with
  | some as' => match r with | .bor _ => .stuck | r => .ok r as'
  | none => .stuck
/-- a def's body, its parameters' values as, its other names behind them -/
def runB (Φ : Env') (n : Nat) (b : Sts) (as : List Slot) : FR := match exSs Φ b (as ++ List.replicate (n - as.length) .non) with
  | .ok .nx ρ => endR as (.val .none) ρ
  | .ok (.ret r) ρ => endR as r ρ
  | .ok _ _ => .stuck
  | .exc e ρ => match outArgs 0 as ρ with | some as' => .exc e as' | none => .stuck
  | .stuck => .stuck
end PV
set_option Elab.async false
set_option linter.all false
set_option autoImplicit false
set_option maxRecDepth 100000
/-! PV: worlds: the heap, what stands still in it, what is one's own. -/
namespace PV
open PySem PySem.Spec PyProof.Rows L2

structure Wd where
  H : Hp
  G : Hp
  O : Addr → Prop
/-- what a step leaves as it was -/
structure Ext (W W' : Wd) : Prop where
  fz : Same W.G W'.G
  fr : ∀ p o, W.H p = some o → ¬ W.O p → W'.H p = some o
  ow : ∀ p, W'.O p → W.O p ∨ W.H p = none
  gn : ∀ p, W.G p = none → W.H p ≠ none → ¬ W.O p → W'.G p = none
  tr : ∀ p, W.H p ≠ none → W'.H p ≠ none
theorem Ext.refl (W : Wd) : Ext W W := ⟨Same.refl _, fun _ _ h _ => h, fun _ h => .inl h, fun _ h _ _ => h, fun _ h => h⟩
theorem Ext.trans {W W1 W2 : Wd} (a : Ext W W1) (b : Ext W1 W2) : Ext W W2 := by
  have no : ∀ p, W.H p ≠ none → ¬ W.O p → ¬ W1.O p := fun p h1 h2 h => (a.ow p h).elim h2 h1
  refine ⟨a.fz.trans b.fz, fun p o h n => b.fr p o (a.fr p o h n) (no p (by rw [h]; simp) n), fun p h => ?_, fun p h1 h2 h3 => b.gn p (a.gn p h1 h2 h3) (a.tr p h2) (no p h2 h3), fun p h => b.tr p (a.tr p h)⟩
  rcases b.ow p h with h | h
  · exact a.ow p h
  · refine .inr ?_
    cases q : W.H p with
    | none => rfl
    | some o => exact absurd h (a.tr p (by rw [q]; simp))

/-- the frame of what is said: the written part, the names of the module, where the things handed over lie, the heap at the entry -/
structure Gh where
  K : Frg
  mg : Str → Option Value
  pa : Nat → Addr
  B : Hp
def MvOk (K : Frg) (W : Wd) (p : Addr) : Mv → Prop
  | .lst xs => ∃ vs, W.H p = some (.lst vs) ∧ RpAll K W.G vs xs
  | .dct kvs => ∃ vs, W.H p = some (.dK vs) ∧ RpKV K W.G vs (kvs.map fun q => (kD q.1, q.2))
/-- at a: an error's object, of the class cls, its fields' dict at d -/
def ExcH (a : Addr) (cls : Value) (d : Option Addr) : HO := .ext fun h => ∃ (oe : Obj) (vs : Array Value), h.get? a = some oe ∧ Zc cls d oe ∧ oe.data = .fields vs
/-- what stands still -/
def StOk (K : Frg) (mg : Str → Option Value) (G : Hp) (v : V) : Still → Prop
  | .exn e => ∃ (a C dx : Addr) (fs : List (Str × V)), v = .ref a ∧ mg e.cls = some (.ref C) ∧ G a = some (ExcH a (.ref C) (some dx)) ∧ G dx = some (.xd fs) ∧ Paired (fun (p : Str × V) (q : Str × D) => p.1 = q.1 ∧ Rp K G p.2 q.2) fs e.fs
theorem StOk.mono {K : Frg} {mg : Str → Option Value} {G G' : Hp} {v : V} {t : Still} (s : Same G G') (h : StOk K mg G v t) : StOk K mg G' v t := by
  cases t with
  | exn e =>
    obtain ⟨a, C, dx, fs, h1, h2, h3, h4, h5⟩ := h
    exact ⟨a, C, dx, fs, h1, h2, s _ _ h3, s _ _ h4, Paired.mapP h5 fun p q z => ⟨z.1, Rp.mono s z.2⟩⟩
def SlotOk (g : Gh) (W : Wd) (o : Option (Option V)) : Slot → Prop
  | .non => True
  | .val d => ∃ v, o = some (some v) ∧ Rp g.K W.G v d
  | .own pin m => ∃ p, o = some (some (.ref p)) ∧ W.O p ∧ MvOk g.K W p m ∧ (match pin with | none => g.B p = none | some k => g.pa k = p)
  | .st t => ∃ v, o = some (some v) ∧ StOk g.K g.mg W.G v t
structure SO (g : Gh) (W : Wd) (σ : L2.St) (ρ : List Slot) : Prop where
  gh : Same W.G W.H
  og : ∀ p, W.O p → W.G p = none ∧ W.H p ≠ none
  bt : ∀ p, g.B p ≠ none → W.H p ≠ none
  len : ρ.length = σ.length
  slots : ∀ (i : Nat) (s : Slot), ρ[i]? = some s → SlotOk g W σ[i]? s
  inj : ∀ (i j : Nat) (a b : Option Nat) (m m' : Mv) (p : Addr), ρ[i]? = some (.own a m) → ρ[j]? = some (.own b m') → σ[i]? = some (some (.ref p)) → σ[j]? = some (some (.ref p)) → i = j
/-- a value at hand; W0: the world ahead of its reckoning -/
def RvOk (g : Gh) (W0 W : Wd) (σ : L2.St) (v : V) : Rv → Prop
  | .val d => Rp g.K W.G v d
  | .fr m => ∃ p, v = .ref p ∧ W0.H p = none ∧ ¬ W.O p ∧ W.G p = none ∧ MvOk g.K W p m
  | .bor i => σ[i]? = some (some v)
  | .st t => StOk g.K g.mg W.G v t
/-- several; the new ones are apart -/
inductive RvsOk (g : Gh) (W0 W : Wd) (σ : L2.St) : List V → List Rv → Prop
  | nil : RvsOk g W0 W σ [] []
  | cons {v : V} {vs : List V} {r : Rv} {rs : List Rv} : RvOk g W0 W σ v r → RvsOk g W0 W σ vs rs → (∀ m, r = .fr m → ∀ (j : Nat) m', rs[j]? = some (.fr m') → vs[j]? ≠ some v) → RvsOk g W0 W σ (v :: vs) (r :: rs)

section
variable {g : Gh} {W W0 W1 W2 : Wd} {σ : L2.St} {ρ : List Slot} {v : V} {r : Rv} {m : Mv} {p : Addr}
theorem MvOk.keep (e : Ext W1 W2) (n : ¬ W1.O p) (h : MvOk g.K W1 p m) : MvOk g.K W2 p m := by
  cases m with
  | lst xs => obtain ⟨vs, h1, h2⟩ := h; exact ⟨vs, e.fr _ _ h1 n, RpAll.mono e.fz h2⟩
  | dct kvs => obtain ⟨vs, h1, h2⟩ := h; exact ⟨vs, e.fr _ _ h1 n, RpKV.mono e.fz h2⟩
theorem MvOk.some (h : MvOk g.K W p m) : W.H p ≠ none := by
  cases m with
  | lst xs => obtain ⟨vs, h1, h2⟩ := h; rw [h1]; simp
  | dct kvs => obtain ⟨vs, h1, h2⟩ := h; rw [h1]; simp
theorem none_of_ext (a : Ext W0 W1) (h : W1.H p = none) : W0.H p = none := by
  cases q : W0.H p with
  | none => rfl
  | some o => exact absurd h (a.tr p (by rw [q]; simp))
/-- a value at hand stays it -/
theorem RvOk.ext (h : RvOk g W0 W1 σ v r) (a : Ext W0 W1) (e : Ext W1 W2) : RvOk g W0 W2 σ v r := by
  cases r with
  | val d => exact Rp.mono e.fz h
  | bor i => exact h
  | st t => exact StOk.mono e.fz h
  | fr m =>
    obtain ⟨p, h1, h2, h3, h4, h5⟩ := h
    refine ⟨p, h1, h2, fun q => ?_, e.gn p h4 h5.some h3, h5.keep e h3⟩
    rcases e.ow p q with q | q
    · exact h3 q
    · exact h5.some q
/-- told from an earlier world -/
theorem RvOk.back (h : RvOk g W1 W2 σ v r) (a : Ext W0 W1) : RvOk g W0 W2 σ v r := by
  cases r with
  | val d => exact h
  | bor i => exact h
  | st t => exact h
  | fr m =>
    obtain ⟨p, h1, h2, h3⟩ := h
    exact ⟨p, h1, none_of_ext a h2, h3⟩
theorem RvsOk.ext {vs : List V} {rs : List Rv} (h : RvsOk g W0 W1 σ vs rs) (a : Ext W0 W1) (e : Ext W1 W2) : RvsOk g W0 W2 σ vs rs := by
  induction h with
  | nil => exact .nil
  | cons h _ n ih => exact .cons (h.ext a e) ih n
theorem RvsOk.back {vs : List V} {rs : List Rv} (h : RvsOk g W1 W2 σ vs rs) (a : Ext W0 W1) : RvsOk g W0 W2 σ vs rs := by
  induction h with
  | nil => exact .nil
  | cons h _ n ih => exact .cons (h.back a) ih n
/-- one more ahead: reckoned in W1, the others from there on -/
theorem RvsOk.push {vs : List V} {rs : List Rv} (h : RvOk g W0 W1 σ v r) (a : Ext W0 W1) (e : Ext W1 W2) (t : RvsOk g W1 W2 σ vs rs) : RvsOk g W0 W2 σ (v :: vs) (r :: rs) := by
  refine .cons (h.ext a e) (t.back a) fun m hm j m' hj hv => ?_
  subst hm
  obtain ⟨p, h1, _, _, _, h5⟩ := h
  have key : ∀ {vs : List V} {rs : List Rv} {j : Nat} {m' : Mv}, RvsOk g W1 W2 σ vs rs → rs[j]? = some (.fr m') → vs[j]? = some v → False := by
    intro vs rs j m' t
    induction t generalizing j with
    | nil => intro h; simp at h
    | cons q _ _ ih =>
      cases j with
      | zero =>
        intro e1 e2
        simp at e1 e2
        subst e1 e2
        obtain ⟨p', k1, k2, _⟩ := q
        rw [h1] at k1
        cases k1
        exact h5.some k2
      | succ j => intro e1 e2; exact ih (by simpa using e1) (by simpa using e2)
  exact key t hj hv
theorem RvsOk.length {vs : List V} {rs : List Rv} (h : RvsOk g W0 W σ vs rs) : vs.length = rs.length := by
  induction h with
  | nil => rfl
  | cons _ _ _ ih => simp [ih]

/-! ### what is read -/
/-- top-level in the heap, its parts standing still -/
def Rt (K : Frg) (W : Wd) (v : V) : D → Prop
  | .list ds => ∃ a vs, v = .ref a ∧ Lq K W.H a vs ∧ RpAll K W.G vs ds
  | .dict ds => ∃ a kvs, v = .ref a ∧ W.H a = some (.dK kvs) ∧ RpKV K W.G kvs ds
  | d => Rp K W.G v d
theorem Rt.of_rp {K : Frg} {W : Wd} {d : D} (gh : Same W.G W.H) (h : Rp K W.G v d) : Rt K W v d := by
  cases d with
  | list ds => obtain ⟨a, vs, h1, h2, h3⟩ := h.of_lst; exact ⟨a, vs, h1, h2.mono gh, h3⟩
  | dict ds => obtain ⟨a, vs, h1, h2, h3⟩ := h.of_dct; exact ⟨a, vs, h1, gh _ _ h2, h3⟩
  | _ => exact h
theorem Rt.rp {K : Frg} {W : Wd} {d : D} (gh : Same W.G W.H) (h : Rt K W v d) : Rp K W.H v d := by
  cases d with
  | list ds => obtain ⟨a, vs, h1, h2, h3⟩ := h; subst h1; exact .lst h2 (RpAll.mono gh h3)
  | dict ds => obtain ⟨a, vs, h1, h2, h3⟩ := h; subst h1; exact .dct h2 (RpKV.mono gh h3)
  | _ => exact Rp.mono gh h
theorem MvOk.rt (h : MvOk g.K W p m) : Rt g.K W (.ref p) m.d := by
  cases m with
  | lst xs => obtain ⟨vs, h1, h2⟩ := h; exact ⟨p, vs, rfl, Lq.of h1, h2⟩
  | dct kvs => obtain ⟨vs, h1, h2⟩ := h; exact ⟨p, vs, rfl, h1, h2⟩
theorem SO.slot (so : SO g W σ ρ) {i : Nat} {s : Slot} (h : ρ[i]? = some s) : SlotOk g W σ[i]? s := so.slots i s h
/-- the content of a value at hand -/
theorem SO.cont (so : SO g W σ ρ) (h : RvOk g W0 W σ v r) {d : D} (e : cont ρ r = some d) : Rt g.K W v d := by
  cases r with
  | val d' => simp [PV.cont] at e; subst e; exact Rt.of_rp so.gh h
  | fr m => simp [PV.cont] at e; subst e; obtain ⟨p, rfl, _, _, _, h5⟩ := h; exact h5.rt
  | st t => cases e
  | bor i =>
    have h : σ[i]? = some (some v) := h
    simp only [PV.cont] at e
    split at e
    · rename_i q
      simp at e
      subst e
      obtain ⟨v', h1, h2⟩ := so.slot q
      rw [h] at h1
      cases h1
      exact Rt.of_rp so.gh h2
    · rename_i q
      simp at e
      subst e
      obtain ⟨p, h1, h2, h3, _⟩ := so.slot q
      rw [h] at h1
      cases h1
      exact h3.rt
    · cases e

/-! ### how the world grows -/
def Wd.add (W : Wd) (p : Addr) (o : HO) (fz : Bool) : Wd := ⟨upd W.H p o, if fz then upd W.G p o else W.G, W.O⟩
theorem same_upd {H : Hp} {o : HO} (h : H p = none) : Same H (upd H p o) := fun b x e => by rw [upd_ne (ne_of_none e h)]; exact e
theorem so_upd {o : HO} {fz : Bool} (so : SO g W σ ρ) (hp : W.H p = none) : SO g (W.add p o fz) σ ρ ∧ Ext W (W.add p o fz) := by
  have gp : W.G p = none := so.gh.free hp
  have ne : ∀ q, W.H q ≠ none → q ≠ p := fun q h e => h (e ▸ hp)
  have hh : ∀ q, q ≠ p → (W.add p o fz).H q = W.H q := fun q h => upd_ne h
  have hg : ∀ q, q ≠ p → (W.add p o fz).G q = W.G q := fun q h => by
    unfold Wd.add
    cases fz with
    | true => exact upd_ne h
    | false => rfl
  have ext : Ext W (W.add p o fz) := by
    refine ⟨?_, fun q x e _ => by rw [hh q (ne q (by rw [e]; simp))]; exact e, fun q h => .inl h, fun q h1 h2 _ => by rw [hg q (ne q h2)]; exact h1, fun q h => by rw [hh q (ne q h)]; exact h⟩
    unfold Wd.add
    cases fz with
    | true => exact same_upd gp
    | false => exact Same.refl _
  have gh' : Same (W.add p o fz).G (W.add p o fz).H := by
    unfold Wd.add
    intro q x e
    cases fz with
    | true =>
      by_cases hq : q = p
      · subst hq
        simp only [if_true, upd_same] at e ⊢
        exact e
      · simp only [if_true, upd_ne hq] at e ⊢
        exact so.gh q x e
    | false =>
      simp only [Bool.false_eq_true, if_false] at e
      have hq : q ≠ p := fun z => by rw [z, gp] at e; cases e
      show upd W.H p o q = some x
      rw [upd_ne hq]
      exact so.gh q x e
  refine ⟨⟨gh', fun q h => ?_, fun q h => ?_, so.len, fun i s h => ?_, so.inj⟩, ext⟩
  · obtain ⟨h1, h2⟩ := so.og q h
    rw [hg q (ne q h2), hh q (ne q h2)]
    exact ⟨h1, h2⟩
  · have := so.bt q h
    rw [hh q (ne q this)]
    exact this
  · have := so.slots i s h
    cases s with
    | non => trivial
    | val d => obtain ⟨v, h1, h2⟩ := this; exact ⟨v, h1, Rp.mono ext.fz h2⟩
    | st t => obtain ⟨v, h1, h2⟩ := this; exact ⟨v, h1, StOk.mono ext.fz h2⟩
    | own pin m =>
      obtain ⟨q, h1, h2, h3, h4⟩ := this
      refine ⟨q, h1, h2, ?_, h4⟩
      have nq := ne q (so.og q h2).2
      cases m with
      | lst xs => obtain ⟨vs, k1, k2⟩ := h3; exact ⟨vs, by rw [hh q nq]; exact k1, RpAll.mono ext.fz k2⟩
      | dct xs => obtain ⟨vs, k1, k2⟩ := h3; exact ⟨vs, by rw [hh q nq]; exact k1, RpKV.mono ext.fz k2⟩
theorem Wd.add_H {o : HO} {fz : Bool} : (W.add p o fz).H = upd W.H p o := rfl
theorem Wd.add_Gp {o : HO} : (W.add p o true).G p = some o := by unfold Wd.add; simp [upd_same]
theorem add_G (so : SO g W σ ρ) {o : HO} {fz : Bool} (hp : W.H p = none) : Same W.G (W.add p o fz).G := (so_upd (o := o) (fz := fz) so hp).2.fz

/-! ### a thing stands still from now on -/
def HOof (g : Gh) (W : Wd) (p : Addr) : Hp := fun b => if b = p then W.H p else W.G b
/-- p leaves what may change -/
def Wd.frz (W : Wd) (p : Addr) : Wd := ⟨W.H, fun b => if b = p then W.H p else W.G b, fun b => W.O b ∧ b ≠ p⟩
theorem frz_rp (h : MvOk g.K W p m) (gp : W.G p = none) : Rp g.K (W.frz p).G (.ref p) m.d := by
  have s : Same W.G (W.frz p).G := fun b x e => by
    have : b ≠ p := fun z => by rw [z, gp] at e; cases e
    show (if b = p then W.H p else W.G b) = some x
    rw [if_neg this]
    exact e
  have e : (W.frz p).G p = W.H p := if_pos rfl
  cases m with
  | lst xs => obtain ⟨vs, h1, h2⟩ := h; exact .lst (Lq.of (e.trans h1)) (RpAll.mono s h2)
  | dct xs => obtain ⟨vs, h1, h2⟩ := h; exact .dct (e.trans h1) (RpKV.mono s h2)
theorem frz_same (gp : W.G p = none) : Same W.G (W.frz p).G := fun b x e => by
  have : b ≠ p := fun z => by rw [z, gp] at e; cases e
  show (if b = p then W.H p else W.G b) = some x
  rw [if_neg this]
  exact e
/-- a new thing, as seen from W0 -/
theorem frz_ext (a : Ext W0 W) (h0 : W0.H p = none ∨ W0.O p) (gp : W.G p = none) : Ext W0 (W.frz p) := by
  have ne : ∀ q, W0.H q ≠ none → ¬ W0.O q → q ≠ p := fun q h1 h2 e => h0.elim (fun z => h1 (e ▸ z)) fun z => h2 (e ▸ z)
  refine ⟨a.fz.trans (frz_same gp), a.fr, fun q h => a.ow q h.1, fun q h1 h2 h3 => ?_, a.tr⟩
  show (if q = p then W.H p else W.G q) = none
  rw [if_neg (ne q h2 h3)]
  exact a.gn q h1 h2 h3
theorem frz_so (so : SO g W σ ρ) (gp : W.G p = none) (hs : ∀ (i : Nat) pin m, ρ[i]? = some (.own pin m) → σ[i]? ≠ some (some (.ref p))) : SO g (W.frz p) σ ρ := by
  have s := frz_same (W := W) gp
  refine ⟨fun b x e => ?_, fun q h => ?_, so.bt, so.len, fun i s' h => ?_, so.inj⟩
  · by_cases hb : b = p
    · subst hb
      have e : (if b = b then W.H b else W.G b) = some x := e
      rw [if_pos rfl] at e
      exact e
    · have e : (if b = p then W.H p else W.G b) = some x := e
      rw [if_neg hb] at e
      exact so.gh b x e
  · obtain ⟨h1, h2⟩ := h
    refine ⟨?_, (so.og q h1).2⟩
    show (if q = p then W.H p else W.G q) = none
    rw [if_neg h2]
    exact (so.og q h1).1
  · have := so.slots i s' h
    cases s' with
    | non => trivial
    | val d => obtain ⟨v, h1, h2⟩ := this; exact ⟨v, h1, Rp.mono s h2⟩
    | st t => obtain ⟨v, h1, h2⟩ := this; exact ⟨v, h1, StOk.mono s h2⟩
    | own pin m =>
      obtain ⟨q, h1, h2, h3, h4⟩ := this
      have nq : q ≠ p := fun e => hs i pin m h (e ▸ h1)
      refine ⟨q, h1, ⟨h2, nq⟩, ?_, h4⟩
      cases m with
      | lst xs => obtain ⟨vs, k1, k2⟩ := h3; exact ⟨vs, k1, RpAll.mono s k2⟩
      | dct xs => obtain ⟨vs, k1, k2⟩ := h3; exact ⟨vs, k1, RpKV.mono s k2⟩
end
end PV
set_option Elab.async false
set_option linter.all false
set_option autoImplicit false
set_option maxRecDepth 100000
set_option maxHeartbeats 1000000
/-! PV: the operations by values, over HandS's rules. -/
namespace PV
open PySem PySem.Spec PyProof.Rows L2

/-- what an operation hands back: data that stood, a new tuple, a new list -/
inductive New (K : Frg) (W : Wd) : Rv → V → Wd → Prop
  | old {d : D} {v : V} : Rp K W.G v d → New K W (.val d) v W
  | tup {p : Addr} {vs : List V} {ds : List D} : W.H p = none → RpAll K W.G vs ds → New K W (.val (.tuple ds)) (.ref p) (W.add p (.tup vs) true)
  | lst {p : Addr} {vs : List V} {ds : List D} : W.H p = none → RpAll K W.G vs ds → New K W (.fr (.lst ds)) (.ref p) (W.add p (.lst vs) false)

theorem New.ok {g : Gh} {W0 W W' : Wd} {σ : L2.St} {ρ : List Slot} {r : Rv} {v : V} (n : New g.K W r v W') (a : Ext W0 W) (so : SO g W σ ρ) : Ext W0 W' ∧ SO g W' σ ρ ∧ RvOk g W0 W' σ v r := by
  cases n with
  | old h => exact ⟨a, so, h⟩
  | @tup p vs ds hp h =>
    obtain ⟨s1, e1⟩ := so_upd (o := .tup vs) (fz := true) so hp
    exact ⟨a.trans e1, s1, .tup (SqT.of Wd.add_Gp) (RpAll.mono e1.fz h)⟩
  | @lst p vs ds hp h =>
    obtain ⟨s1, e1⟩ := so_upd (o := .lst vs) (fz := false) so hp
    refine ⟨a.trans e1, s1, p, rfl, none_of_ext a hp, fun z => (so.og p z).2 hp, so.gh.free hp, vs, upd_same, RpAll.mono e1.fz h⟩

/-- the world of a heap -/
def Rt2 (K : Frg) (f : D → D → Option Rv) : R2 := fun x y H Q => ∃ (W : Wd) (a b : D) (r : Rv), W.H = H ∧ Same W.G W.H ∧ Rt K W x a ∧ Rt K W y b ∧ f a b = some r ∧ ∀ v W', New K W r v W' → Q v W'.H
def Rc2 (K : Frg) (f : D → D → Option Bool) : R2 := fun x y H Q => ∃ (W : Wd) (a b : D) (r : Bool), W.H = H ∧ Same W.G W.H ∧ Rt K W x a ∧ Rt K W y b ∧ f a b = some r ∧ Q (.bl r) H
inductive RtAll (K : Frg) (W : Wd) : List V → List D → Prop
  | nil : RtAll K W [] []
  | cons {v : V} {vs : List V} {d : D} {ds : List D} : Rt K W v d → RtAll K W vs ds → RtAll K W (v :: vs) (d :: ds)
def Rts (K : Frg) (f : List D → Option Rv) : List V → Hp → VK → Prop := fun xs H Q => ∃ (W : Wd) (ds : List D) (r : Rv), W.H = H ∧ Same W.G W.H ∧ RtAll K W xs ds ∧ f ds = some r ∧ ∀ v W', New K W r v W' → Q v W'.H

section
variable {K : Frg} {W : Wd} {v : V}
theorem Rt.int {i : Int} (h : Rt K W v (.int i)) : v = .int i := Rp.of_int h
theorem Rt.bool {i : Bool} (h : Rt K W v (.bool i)) : v = .bl i := Rp.of_bool h
theorem Rt.str {i : Str} (h : Rt K W v (.str i)) : v = .str i := Rp.of_str h
theorem Rt.none (h : Rt K W v .none) : v = .non := Rp.of_none h
theorem Rt.tup {ds : List D} (h : Rt K W v (.tuple ds)) : ∃ a vs, v = .ref a ∧ SqT K W.G a vs ∧ RpAll K W.G vs ds := Rp.of_tup h
theorem Rt.lst {ds : List D} (h : Rt K W v (.list ds)) : ∃ a vs, v = .ref a ∧ Lq K W.H a vs ∧ RpAll K W.G vs ds := h
end

/-! ### lists that are read, of any standing -/
section
variable {X : Cx}
def rCatQ (K : Frg) : R2 := fun x y H Q => ∃ l b xs zs, x = .ref l ∧ y = .ref b ∧ Lq K H l xs ∧ Lq K H b zs ∧ xs.length + zs.length ≤ sizeLine ∧ ∀ p, H p = none → Q (.ref p) (upd H p (.lst (xs ++ zs)))
theorem op_catQ : OpR X (binaryOp .Add) (rCatQ X.K) := by
  intro pins s σ H x y v u Q I rx ry ⟨l, b, xs, zs, ex, ey, h1, h2, hz, q⟩
  subst ex ey
  cases rx
  cases ry
  obtain ⟨i1, n1, r1, l1, _, e1⟩ := h1.at I
  obtain ⟨i2, n2, r2, l2, _, e2⟩ := h2.at I
  have hs : i1.toArray.size + i2.toArray.size ≤ sizeLine := by simp only [List.size_toArray]; omega
  refine PySem.P.add_list e1 e2 ?_ hs
  have e3 : i1.toArray ++ i2.toArray = (i1 ++ i2).toArray := by simp
  have I2 := I.lnew (t' := s.toks) (r1.append r2) (by simp only [List.length_append]; omega)
  rw [← e3] at I2
  exact ⟨.ref s.heap.objs.size, _, I2, rfl, q _ I.fresh⟩

/-! ### two-place operations -/
def opB : BO → Operator
  | .add => .Add | .sub => .Sub | .mul => .Mult | .fdiv => .FloorDiv | .mod => .Mod | .pow => .Pow
theorem smallI_ok {i : Int} (h : smallI i = true) : -(2 ^ 64) < i ∧ i < 2 ^ 64 := by
  unfold smallI at h
  rw [Bool.and_eq_true, decide_eq_true_eq, decide_eq_true_eq] at h
  exact h
theorem fitsL_ok {n : Nat} (h : fitsL n = true) : n ≤ sizeLine := of_decide_eq_true h
theorem op_binV (o : BO) : OpR X (binaryOp (opB o)) (Rt2 X.K (binV o)) := by
  intro pins s σ H x y v u Q I rx ry ⟨W, a, b, r, eH, gh, ra, rb, e, q⟩
  subst eH
  cases o with
  | add =>
    cases a with
    | int i =>
      cases b with
      | int j =>
        cases ra.int; cases rb.int; cases e
        exact op_add pins s σ _ _ _ v u Q I rx ry ⟨i, j, rfl, rfl, q _ _ (.old (.int _))⟩
      | bool j =>
        cases ra.int; cases rb.bool; cases e
        exact op_add_ib pins s σ _ _ _ v u Q I rx ry ⟨i, j, rfl, rfl, q _ _ (.old (.int _))⟩
      | _ => cases e
    | str i =>
      cases b with
      | str j =>
        cases ra.str; cases rb.str
        simp only [binV] at e
        split at e
        · rename_i hz
          cases e
          exact op_add_str pins s σ _ _ _ v u Q I rx ry ⟨i, j, rfl, rfl, fitsL_ok hz, q _ _ (.old (.str _))⟩
        · cases e
      | _ => cases e
    | tuple xs =>
      cases b with
      | tuple ys =>
        obtain ⟨p, vs, e1, h1, r1⟩ := ra.tup
        obtain ⟨p2, ws, e2, h2, r2⟩ := rb.tup
        subst e1 e2
        simp only [binV] at e
        split at e
        · rename_i hz
          cases e
          have l1 := r1.length
          have l2 := r2.length
          refine op_catA pins s σ _ _ _ v u Q I rx ry ⟨p, p2, vs, ws, rfl, rfl, seqT_mono gh h1, seqT_mono gh h2, by rw [l1, l2]; exact fitsL_ok hz, fun z => ?_, fun _ z => ?_, fun _ _ l hl => ?_⟩
          · subst z
            cases r1
            exact q _ _ (.old (.tup h2 r2))
          · subst z
            cases r2
            rw [List.append_nil] at q
            exact q _ _ (.old (.tup h1 r1))
          · exact q _ _ (.tup hl (r1.append r2))
        · cases e
      | _ => cases e
    | list xs =>
      cases b with
      | list ys =>
        obtain ⟨p, vs, e1, h1, r1⟩ := ra.lst
        obtain ⟨p2, ws, e2, h2, r2⟩ := rb.lst
        subst e1 e2
        simp only [binV] at e
        split at e
        · rename_i hz
          cases e
          have l1 := r1.length
          have l2 := r2.length
          exact op_catQ pins s σ _ _ _ v u Q I rx ry ⟨p, p2, vs, ws, rfl, rfl, h1, h2, by rw [l1, l2]; exact fitsL_ok hz, fun l hl => q _ _ (.lst hl (r1.append r2))⟩
        · cases e
      | _ => cases e
    | _ => cases e
  | sub =>
    cases a with
    | int i =>
      cases b with
      | int j =>
        cases ra.int; cases rb.int; cases e
        exact op_sub pins s σ _ _ _ v u Q I rx ry ⟨i, j, rfl, rfl, q _ _ (.old (.int _))⟩
      | _ => cases e
    | _ => cases e
  | mul =>
    cases a with
    | int i =>
      cases b with
      | int j =>
        cases ra.int; cases rb.int
        simp only [binV] at e
        split at e
        · rename_i hz
          cases e
          rw [Bool.or_eq_true] at hz
          exact op_mul pins s σ _ _ _ v u Q I rx ry ⟨i, j, rfl, rfl, hz.elim (fun z => .inl (smallI_ok z)) (fun z => .inr (smallI_ok z)), q _ _ (.old (.int _))⟩
        · cases e
      | _ => cases e
    | tuple xs =>
      cases b with
      | int k =>
        obtain ⟨p, vs, e1, h1, r1⟩ := ra.tup
        cases rb.int
        subst e1
        simp only [binV] at e
        split at e
        · rename_i hz
          cases e
          simp only [Bool.and_eq_true, decide_eq_true_eq] at hz
          obtain ⟨⟨z1, z2⟩, z3⟩ := hz
          have l1 := r1.length
          refine op_repW pins s σ _ _ _ v u Q I rx ry ⟨p, k, vs, rfl, rfl, seqT_mono gh h1, z1, z2, by rw [l1]; exact z3, fun z => ?_, fun _ _ l hl => q _ _ (.tup hl (r1.rep k.toNat))⟩
          rcases z with z | z
          · subst z
            cases r1
            have e0 : (List.replicate k.toNat ([] : List D)).flatten = [] := by simp
            rw [e0] at q
            exact q _ _ (.old (.tup h1 .nil))
          · subst z
            have e0 : (List.replicate (Int.toNat 1) xs).flatten = xs := by simp
            rw [e0] at q
            exact q _ _ (.old (.tup h1 r1))
        · cases e
      | _ => cases e
    | str x =>
      cases b with
      | int k =>
        cases ra.str; cases rb.int
        simp only [binV] at e
        split at e
        · rename_i hz
          cases e
          simp only [Bool.and_eq_true, decide_eq_true_eq] at hz
          obtain ⟨⟨z1, z2⟩, z3⟩ := hz
          exact op_repSt pins s σ _ _ _ v u Q I rx ry ⟨x, k, rfl, rfl, z1, z2, z3, q _ _ (.old (.str _))⟩
        · cases e
      | _ => cases e
    | _ => cases b <;> cases e
  | fdiv =>
    cases a with
    | int i =>
      cases b with
      | int j =>
        cases ra.int; cases rb.int
        simp only [binV] at e
        split at e
        · rename_i hz
          cases e
          simp only [Bool.and_eq_true, decide_eq_true_eq] at hz
          exact op_fdiv pins s σ _ _ _ v u Q I rx ry ⟨i, j, rfl, rfl, hz, q _ _ (.old (.int _))⟩
        · cases e
      | _ => cases e
    | _ => cases e
  | mod =>
    cases a with
    | int i =>
      cases b with
      | int j =>
        cases ra.int; cases rb.int
        simp only [binV] at e
        split at e
        · rename_i hz
          cases e
          exact op_mod pins s σ _ _ _ v u Q I rx ry ⟨i, j, rfl, rfl, of_decide_eq_true hz, q _ _ (.old (.int _))⟩
        · cases e
      | _ => cases e
    | _ => cases e
  | pow =>
    cases a with
    | int i =>
      cases b with
      | int j =>
        cases ra.int; cases rb.int
        simp only [binV] at e
        split at e
        · rename_i hz
          cases e
          simp only [Bool.and_eq_true, decide_eq_true_eq] at hz
          exact op_pow pins s σ _ _ _ v u Q I rx ry ⟨i, j, rfl, rfl, ⟨hz.1.1, hz.1.2, hz.2⟩, q _ _ (.old (.int _))⟩
        · cases e
      | _ => cases e
    | _ => cases e
end
end PV
set_option Elab.async false
set_option linter.all false
set_option autoImplicit false
set_option maxRecDepth 100000
set_option maxHeartbeats 1000000
/-! PV: comparisons, subscripts, slices, truth, built-ins by values. -/
namespace PV
open PySem PySem.Spec PyProof.Rows L2

mutual
theorem noDict_of_canLay : ∀ d : D, d.canLay0 = true → d.hasDict = false
  | .none, _ => by simp [PyData.hasDict]
  | .bool _, _ => by simp [PyData.hasDict]
  | .int _, _ => by simp [PyData.hasDict]
  | .str _, _ => by simp [PyData.hasDict]
  | .list xs, h => by simp only [PyData.hasDict]; exact noDictAll_of_canLay xs (by simpa [PyData.canLay0] using h)
  | .tuple xs, h => by simp only [PyData.hasDict]; exact noDictAll_of_canLay xs (by simpa [PyData.canLay0] using h)
  | .dict _, h => by simp [PyData.canLay0] at h
theorem noDictAll_of_canLay : ∀ ds : List D, PyData.canLayAll0 ds = true → PyData.hasDictAll ds = false
  | [], _ => by simp [PyData.hasDictAll]
  | d :: ds, h => by
    simp only [PyData.canLayAll0, Bool.and_eq_true] at h
    simp only [PyData.hasDictAll, noDict_of_canLay d h.1, noDictAll_of_canLay ds h.2, Bool.or_self]
end
theorem noDict_of_shaped {d : D} (h : SeqAt.shaped d = true) : d.hasDict = false := noDict_of_canLay d (SeqAt.canLay_of_shaped h)
section
variable {K : Frg} {W : Wd} {v : V} {d : D}
theorem Rt.dp (gh : Same W.G W.H) (h : Rt K W v d) (s : SeqAt.shaped d = true) : Dp K W.H v d := (h.rp gh).dp (noDict_of_shaped s)
end
def opC : CO → CmpOp
  | .eq => .Eq | .ne => .NotEq | .lt => .Lt | .le => .LtE | .gt => .Gt | .ge => .GtE | .is => .Is | .isnot => .IsNot | .isin => .In | .notin => .NotIn
theorem flat_of {K : Frg} {H : Hp} {v : V} {d : D} (r : Rp K H v d) (s : isScalar d = true) : flatV v = true := by
  cases r <;> first | rfl | cases s
theorem flats_of {K : Frg} {H : Hp} : ∀ {vs : List V} {ds : List D}, RpAll K H vs ds → ds.all isScalar = true → vs.all flatV = true
  | _, _, .nil, _ => rfl
  | _, _, .cons r t, h => by
    rw [List.all_cons, Bool.and_eq_true] at h
    rw [List.all_cons, flat_of r h.1, flats_of t h.2] <;> rfl
theorem eqV_eqv {K : Frg} {H : Hp} {x y : V} {a b : D} (rx : Rp K H x a) (ry : Rp K H y b) (ha : isScalar a = true) (hb : isScalar b = true) : eqV x y = PyData.eqv a b := by
  cases rx <;> cases ry <;> first | rfl | (simp [isScalar] at ha; done) | (simp [isScalar] at hb; done) | simp [eqV, PyData.eqv]
theorem inV_hasD {K : Frg} {H : Hp} {x : V} {a : D} (rx : Rp K H x a) (ha : isScalar a = true) : ∀ {vs : List V} {ds : List D}, RpAll K H vs ds → ds.all isScalar = true → inV x vs = hasD a ds
  | _, _, .nil, _ => rfl
  | _, _, .cons r t, h => by
    rw [List.all_cons, Bool.and_eq_true] at h
    have ih := inV_hasD rx ha t h.2
    unfold inV hasD at ih ⊢
    rw [List.any_cons, List.any_cons, ih, eqV_eqv r rx h.1 ha]
theorem Rt.scal {K : Frg} {W : Wd} {v : V} {d : D} (h : Rt K W v d) (s : isScalar d = true) : Rp K W.G v d := by
  cases d <;> first | exact h | cases s
theorem Rt.nonone {K : Frg} {W : Wd} {v : V} {d : D} (h : Rt K W v d) (n : d ≠ .none) : v ≠ .non := by
  intro e
  subst e
  cases d with
  | none => exact n rfl
  | list _ => obtain ⟨_, _, e, _⟩ := h; cases e
  | dict _ => obtain ⟨_, _, e, _⟩ := h; cases e
  | _ => cases h
/-! ### dicts -/
theorem keyD_kV {K : Frg} {W : Wd} {v : V} {a : D} {k : Key} (h : Rt K W v a) (e : keyD a = some k) : v = kV k := by
  cases a with
  | int i => cases e; exact h.int
  | str x => cases e; exact h.str
  | _ => cases e
theorem isKD_kD {k j : Key} : isKD k (kD j) = decide (j = k) := by
  cases k <;> cases j <;> first | rfl | (simp only [isKD, kD]; rw [decide_eq_decide]; exact ⟨fun e => by rw [e], fun e => by cases e; rfl⟩) | (simp only [isKD, kD]; exact (decide_eq_false (by intro z; cases z)).symm)
theorem dget_val {K : Frg} {H : Hp} {k : Key} : ∀ {kvs : List (Key × V)} {ds : List (D × D)}, RpKV K H kvs ds → match dgetD ds k, valV kvs k with | some d, some v => Rp K H v d | none, none => True | _, _ => False
  | _, _, .nil => trivial
  | (j, v) :: kvs, (_, d) :: ds, .cons r t => by
    have ih := dget_val (k := k) t
    by_cases e : j = k
    · have e1 : dgetD ((kD j, d) :: ds) k = some d := by
        unfold dgetD
        rw [List.find?_cons, show isKD k (kD j, d).1 = true from by rw [isKD_kD]; exact decide_eq_true e]
        rfl
      rw [e1, valV_pos (p := (j, v)) (show (j, v).1 = k from e)]
      exact r
    · have e1 : dgetD ((kD j, d) :: ds) k = dgetD ds k := by
        unfold dgetD
        rw [List.find?_cons, show isKD k (kD j, d).1 = false from by rw [isKD_kD]; exact decide_eq_false e]
      rw [e1, valV_neg (p := (j, v)) (show ¬ (j, v).1 = k from e)]
      exact ih
theorem dget_isSome {K : Frg} {H : Hp} {k : Key} {kvs : List (Key × V)} {ds : List (D × D)} (r : RpKV K H kvs ds) : (valV kvs k).isSome = (dgetD ds k).isSome := by
  have z := dget_val (k := k) r
  cases h1 : dgetD ds k <;> cases h2 : valV kvs k <;> rw [h1, h2] at z <;> first | rfl | exact z.elim
theorem dget_some {K : Frg} {H : Hp} {k : Key} {kvs : List (Key × V)} {ds : List (D × D)} {d : D} (r : RpKV K H kvs ds) (e : dgetD ds k = some d) : ∃ v, valV kvs k = some v ∧ Rp K H v d := by
  have z := dget_val (k := k) r
  rw [e] at z
  cases h2 : valV kvs k with
  | none => rw [h2] at z; exact z.elim
  | some v => rw [h2] at z; exact ⟨v, rfl, z⟩
theorem rpkv_any {K : Frg} {H : Hp} {k : Key} : ∀ {kvs : List (Key × V)} {ds : List (Key × D)}, RpKV K H kvs (ds.map fun q => (kD q.1, q.2)) → (kvs.any fun p => decide (p.1 = k)) = (ds.any fun p => decide (p.1 = k))
  | [], [], _ => rfl
  | [], _ :: _, h => by cases h
  | _ :: _, [], h => by cases h
  | (j, v) :: kvs, (j', d) :: ds, h => by
    have e : j = j' ∧ RpKV K H kvs (ds.map fun q => (kD q.1, q.2)) := by
      have h : RpKV K H ((j, v) :: kvs) ((kD j', d) :: ds.map fun q => (kD q.1, q.2)) := h
      generalize hx : kD j' = x at h
      cases h with
      | cons r t =>
        refine ⟨?_, t⟩
        cases j <;> cases j' <;> first | (cases hx; rfl) | cases hx
    rw [List.any_cons, List.any_cons, rpkv_any e.2, e.1]
theorem rpkv_set {K : Frg} {H : Hp} {k : Key} {v : V} {d : D} (r : Rp K H v d) : ∀ {kvs : List (Key × V)} {ds : List (Key × D)}, RpKV K H kvs (ds.map fun q => (kD q.1, q.2)) → RpKV K H (kvs.map fun p => if p.1 = k then (p.1, v) else p) ((ds.map fun p => if p.1 = k then (p.1, d) else p).map fun q => (kD q.1, q.2))
  | [], [], _ => .nil
  | [], _ :: _, h => by cases h
  | _ :: _, [], h => by cases h
  | (j, v') :: kvs, (j', d') :: ds, h => by
    have e : j = j' ∧ Rp K H v' d' ∧ RpKV K H kvs (ds.map fun q => (kD q.1, q.2)) := by
      have h : RpKV K H ((j, v') :: kvs) ((kD j', d') :: ds.map fun q => (kD q.1, q.2)) := h
      generalize hx : kD j' = x at h
      cases h with
      | cons r t =>
        refine ⟨?_, r, t⟩
        cases j <;> cases j' <;> first | (cases hx; rfl) | cases hx
    obtain ⟨e1, e2, e3⟩ := e
    subst e1
    have ih := rpkv_set (k := k) r e3
    by_cases e : j = k
    · simp only [List.map_cons, e, if_true]
      exact .cons r ih
    · simp only [List.map_cons, e, if_false]
      exact .cons e2 ih
theorem rpkv_app {K : Frg} {H : Hp} {k : Key} {v : V} {d : D} (r : Rp K H v d) : ∀ {kvs : List (Key × V)} {ds : List (D × D)}, RpKV K H kvs ds → RpKV K H (kvs ++ [(k, v)]) (ds ++ [(kD k, d)])
  | _, _, .nil => .cons r .nil
  | _, _, .cons r' t => .cons r' (rpkv_app r t)
theorem rpkv_put {K : Frg} {H : Hp} {k : Key} {v : V} {d : D} (r : Rp K H v d) {kvs : List (Key × V)} {ds : List (Key × D)} (h : RpKV K H kvs (ds.map fun q => (kD q.1, q.2))) : RpKV K H (putK kvs k v) ((putKD ds k d).map fun q => (kD q.1, q.2)) := by
  unfold putK putKD
  rw [rpkv_any h]
  split
  · exact rpkv_set r h
  · rw [List.map_append]
    exact rpkv_app r h
theorem rpkv_len {K : Frg} {H : Hp} : ∀ {kvs : List (Key × V)} {ds : List (D × D)}, RpKV K H kvs ds → kvs.length = ds.length
  | _, _, .nil => rfl
  | _, _, .cons _ t => congrArg Nat.succ (rpkv_len t)
theorem Rt.dct {K : Frg} {W : Wd} {v : V} {ds : List (D × D)} (h : Rt K W v (.dict ds)) : ∃ a kvs, v = .ref a ∧ W.H a = some (.dK kvs) ∧ RpKV K W.G kvs ds := h
section
variable {X : Cx}
theorem dec_strD {i j : Str} : decide (V.str i = V.str j) = PyData.eqv (.str i) (.str j) := by
  rw [Bool.eq_iff_iff]
  simp [PyData.eqv]
theorem op_cmpV (hu : X.A.units + 65 < cLine) (o : CO) : OpR X (compareOp (opC o)) (Rc2 X.K (cmpV o)) := by
  intro pins s σ H x y v u Q I rx ry ⟨W, a, b, r, eH, gh, ra, rb, e, q⟩
  subst eH
  cases o with
  | eq =>
    simp only [cmpV] at e
    split at e
    · rename_i hz
      rw [Bool.or_eq_true, Bool.or_eq_true, Bool.and_eq_true] at hz
      cases e
      rcases hz with (hz | hz) | hz
      · cases a <;> cases b <;> first | cases hz | skip
        cases ra.str; cases rb.str
        refine op_eq pins s σ _ _ _ v u Q I rx ry ⟨rfl, ?_⟩
        rw [dec_strD]
        exact q
      rotate_left
      · exact op_eqR hu rfl I rx ry (ra.rp gh) (rb.rp gh) hz q
      exact op_eqD (by omega) pins s σ _ x y v u Q I rx ry ⟨a, b, ra.dp gh hz.1, rb.dp gh hz.2, hz.1, hz.2, q⟩
    · cases e
  | ne =>
    simp only [cmpV] at e
    split at e
    · rename_i hz
      rw [Bool.or_eq_true, Bool.or_eq_true, Bool.and_eq_true] at hz
      cases e
      rcases hz with (hz | hz) | hz
      · cases a <;> cases b <;> first | cases hz | skip
        cases ra.str; cases rb.str
        refine op_ne pins s σ _ _ _ v u Q I rx ry ⟨rfl, ?_⟩
        rw [dec_strD]
        exact q
      rotate_left
      · exact op_neR hu rfl I rx ry (ra.rp gh) (rb.rp gh) hz q
      exact op_neD (by omega) pins s σ _ x y v u Q I rx ry ⟨a, b, ra.dp gh hz.1, rb.dp gh hz.2, hz.1, hz.2, q⟩
    · cases e
  | lt =>
    cases a with
    | int i =>
      cases b with
      | int j =>
        cases ra.int; cases rb.int; cases e
        exact op_lt pins s σ _ _ _ v u Q I rx ry ⟨i, j, rfl, rfl, q⟩
      | _ => cases e
    | str i =>
      cases b with
      | str j =>
        cases ra.str; cases rb.str; cases e
        exact op_lt_str pins s σ _ _ _ v u Q I rx ry ⟨i, j, rfl, rfl, q⟩
      | _ => cases e
    | _ => cases e
  | le =>
    cases a with
    | int i =>
      cases b with
      | int j =>
        cases ra.int; cases rb.int; cases e
        exact op_le pins s σ _ _ _ v u Q I rx ry ⟨i, j, rfl, rfl, q⟩
      | _ => cases e
    | _ => cases e
  | gt =>
    cases a with
    | int i =>
      cases b with
      | int j =>
        cases ra.int; cases rb.int; cases e
        exact op_gt pins s σ _ _ _ v u Q I rx ry ⟨i, j, rfl, rfl, q⟩
      | _ => cases e
    | _ => cases e
  | ge =>
    cases a with
    | int i =>
      cases b with
      | int j =>
        cases ra.int; cases rb.int; cases e
        exact op_ge pins s σ _ _ _ v u Q I rx ry ⟨i, j, rfl, rfl, q⟩
      | _ => cases e
    | _ => cases e
  | is =>
    cases b with
    | none =>
      cases rb.none
      refine op_isN pins s σ _ x _ v u Q I rx ry ⟨rfl, ?_⟩
      cases a with
      | none => cases ra.none; cases e; exact q
      | _ =>
        cases e
        rw [decide_eq_false (ra.nonone (by intro z; cases z))]
        exact q
    | bool k =>
      cases a with
      | bool j =>
        cases ra.bool; cases rb.bool; cases e
        exact op_isBl pins s σ _ _ _ v u Q I rx ry ⟨_, _, rfl, rfl, q⟩
      | _ => cases e
    | _ => cases a <;> cases e
  | isnot =>
    cases b with
    | none =>
      cases rb.none
      refine op_notN pins s σ _ x _ v u Q I rx ry ⟨rfl, ?_⟩
      cases a with
      | none => cases ra.none; cases e; exact q
      | _ =>
        cases e
        rw [decide_eq_false (ra.nonone (by intro z; cases z))]
        exact q
    | bool k =>
      cases a with
      | bool j =>
        cases ra.bool; cases rb.bool; cases e
        exact op_notBl pins s σ _ _ _ v u Q I rx ry ⟨_, _, rfl, rfl, q⟩
      | _ => cases e
    | _ => cases a <;> cases e
  | isin =>
    cases b with
    | str z =>
      cases a with
      | str c =>
        cases ra.str; cases rb.str
        simp only [cmpV] at e
        split at e
        · rename_i hz
          cases e
          have ec : c = ⟨#[c.cps[0]!]⟩ := by
            obtain ⟨⟨l⟩⟩ := c
            match l, hz with
            | [k], _ => rfl
          refine op_in_sign pins s σ _ _ _ v u Q I rx ry ⟨c.cps[0]!, z, by rw [← ec], rfl, q⟩
        · cases e
      | _ => cases e
    | list ds =>
      have e' : (if (SeqAt.shaped a && SeqAt.shaped (.list ds)) || inD a ds then some (hasD a ds) else none) = some r := by cases a <;> exact e
      split at e'
      · rename_i hz
        rw [Bool.or_eq_true, Bool.and_eq_true] at hz
        cases e'
        rcases hz with hz | hz
        rotate_left
        · exact op_inR hu rfl I rx ry (ra.rp gh) (.inl (rb.rp gh)) hz q rfl
        exact op_inD hu pins s σ _ x y v u Q I rx ry ⟨a, ds, ra.dp gh hz.1, rb.dp gh hz.2, hz.1, hz.2, q⟩
      · cases e'
    | tuple ds =>
      have e' : (if (isScalar a && ds.all isScalar) || inD a ds then some (hasD a ds) else none) = some r := by cases a <;> exact e
      split at e'
      · rename_i hz
        rw [Bool.or_eq_true, Bool.and_eq_true] at hz
        cases e'
        rcases hz with hz | hz
        rotate_left
        · exact op_inR hu rfl I rx ry (ra.rp gh) (.inr (rb.rp gh)) hz q rfl
        obtain ⟨p, vs, e1, h1, r1⟩ := rb.tup
        refine op_in_seq pins s σ _ x y v u Q I rx ry ⟨p, vs, e1, .inr (seqT_mono gh h1), flat_of (ra.scal hz.1) hz.1, flats_of r1 hz.2, ?_⟩
        rw [← inV_hasD (ra.scal hz.1) hz.1 r1 hz.2] at q
        exact q
      · cases e'
    | dict ds =>
      have e' : dicHas ds a = some r := by cases a <;> exact e
      unfold dicHas at e'
      cases ek : keyD a with
      | none => rw [ek] at e'; cases e'
      | some k =>
        rw [ek] at e'
        cases e'
        obtain ⟨p, kvs, e1, h1, r1⟩ := rb.dct
        have ea := keyD_kV ra ek
        subst e1 ea
        exact op_din (by omega) pins s σ _ _ _ v u Q I rx ry ⟨p, _, rfl, DGet.k h1, by rw [dget_isSome r1]; exact q⟩
    | _ => cases a <;> cases e
  | notin =>
    cases b with
    | str z =>
      cases a with
      | str c =>
        cases ra.str; cases rb.str
        simp only [cmpV] at e
        split at e
        · rename_i hz
          cases e
          have ec : c = ⟨#[c.cps[0]!]⟩ := by
            obtain ⟨⟨l⟩⟩ := c
            match l, hz with
            | [k], _ => rfl
          refine op_notIn_sign pins s σ _ _ _ v u Q I rx ry ⟨c.cps[0]!, z, by rw [← ec], rfl, q⟩
        · cases e
      | _ => cases e
    | list ds =>
      have e' : (if (SeqAt.shaped a && SeqAt.shaped (.list ds)) || inD a ds then some (!hasD a ds) else none) = some r := by cases a <;> exact e
      split at e'
      · rename_i hz
        rw [Bool.or_eq_true, Bool.and_eq_true] at hz
        cases e'
        rcases hz with hz | hz
        rotate_left
        · exact op_ninR hu rfl I rx ry (ra.rp gh) (.inl (rb.rp gh)) hz q rfl
        exact op_notInD hu pins s σ _ x y v u Q I rx ry ⟨a, ds, ra.dp gh hz.1, rb.dp gh hz.2, hz.1, hz.2, q⟩
      · cases e'
    | tuple ds =>
      have e' : (if (isScalar a && ds.all isScalar) || inD a ds then some (!hasD a ds) else none) = some r := by cases a <;> exact e
      split at e'
      · rename_i hz
        rw [Bool.or_eq_true, Bool.and_eq_true] at hz
        cases e'
        rcases hz with hz | hz
        rotate_left
        · exact op_ninR hu rfl I rx ry (ra.rp gh) (.inr (rb.rp gh)) hz q rfl
        obtain ⟨p, vs, e1, h1, r1⟩ := rb.tup
        refine op_notIn_seq pins s σ _ x y v u Q I rx ry ⟨p, vs, e1, .inr (seqT_mono gh h1), flat_of (ra.scal hz.1) hz.1, flats_of r1 hz.2, ?_⟩
        rw [← inV_hasD (ra.scal hz.1) hz.1 r1 hz.2] at q
        exact q
      · cases e'
    | dict ds =>
      have e' : (dicHas ds a).map (!·) = some r := by cases a <;> exact e
      unfold dicHas at e'
      cases ek : keyD a with
      | none => rw [ek] at e'; cases e'
      | some k =>
        rw [ek] at e'
        cases e'
        obtain ⟨p, kvs, e1, h1, r1⟩ := rb.dct
        have ea := keyD_kV ra ek
        subst e1 ea
        exact op_dnotin (by omega) pins s σ _ _ _ v u Q I rx ry ⟨p, _, rfl, DGet.k h1, by rw [dget_isSome r1]; exact q⟩
    | _ => cases a <;> cases e
end

/-! ### truth, subscripts, slices -/
theorem truV_ok {K : Frg} {W : Wd} {v : V} {d : D} {k : Bool} (gh : Same W.G W.H) (h : Rt K W v d) (e : truV d = some k) : TruV K v W.H k := by
  cases d with
  | none => cases h.none; cases e; rfl
  | bool b => cases h.bool; cases e; rfl
  | int i => cases h.int; cases e; rfl
  | str x =>
    cases h.str
    simp only [truV] at e
    split at e
    · rename_i hz
      cases e
      exact ⟨fitsL_ok hz, rfl⟩
    · cases e
  | list xs =>
    obtain ⟨a, vs, e1, h1, r1⟩ := h.lst
    subst e1
    cases e
    refine .inl ⟨vs, h1.sq, ?_⟩
    cases r1 <;> rfl
  | tuple xs =>
    obtain ⟨a, vs, e1, h1, r1⟩ := h.tup
    subst e1
    cases e
    refine .inr (.inl ⟨vs, seqT_mono gh h1, ?_⟩)
    cases r1 <;> rfl
  | dict xs =>
    obtain ⟨a, vs, e1, h1, r1⟩ := h
    subst e1
    cases e
    refine .inr (.inr ⟨vs, h1, ?_⟩)
    cases r1 <;> rfl
theorem atI_map {K : Frg} {H : Hp} {vs : List V} {ds : List D} (r : RpAll K H vs ds) {i : Int} {d : D} (h : atI ds i = some d) : ∃ v, atI vs i = some v ∧ Rp K H v d := by
  unfold atI at h ⊢
  rw [r.length]
  cases q : ixN ds.length i with
  | none => rw [q] at h; cases h
  | some j =>
    rw [q] at h
    obtain ⟨v, h1, h2⟩ := r.get' (show ds[j]? = some d from h)
    exact ⟨v, h1, h2⟩
def Ri2 (K : Frg) : R2 := fun x y H Q => ∃ (W : Wd) (a b d : D), W.H = H ∧ Same W.G W.H ∧ Rt K W x a ∧ Rt K W y b ∧ idxV a b = some d ∧ ∀ v, Rp K W.G v d → Q v W.H
theorem ix_V {X : Cx} (hu : X.A.units + 1 < cLine) : IxR X (Ri2 X.K) := by
  intro vE sE pins s σ H x y v u Q I rx ry ⟨W, a, b, d, eH, gh, ra, rb, e, q⟩ hs
  subst eH
  have dic : ∀ {ds : List (D × D)}, a = .dict ds → wpAny (model X.prog X.w) X.A (subscriptTail vE sE v u) (EP X pins σ Q) X.xe s := fun {ds} ea => by
    subst ea
    have e' : (match keyD b with | some k => dgetD ds k | none => none) = some d := by cases b <;> exact e
    cases ek : keyD b with
    | none => rw [ek] at e'; cases e'
    | some k =>
      rw [ek] at e'
      obtain ⟨p, kvs, e1, h1, r1⟩ := ra.dct
      obtain ⟨z, h2, h3⟩ := dget_some r1 e'
      have eb := keyD_kV rb ek
      subst e1 eb
      exact ix_dict hu vE sE pins s σ _ _ _ v u Q I rx ry ⟨p, z, rfl, h2 ▸ DGet.k h1, q _ h3⟩ hs
  cases b with
  | int i =>
    cases rb.int
    cases a with
    | list xs =>
      obtain ⟨p, vs, e1, h1, r1⟩ := ra.lst
      obtain ⟨w, h2, h3⟩ := atI_map r1 (show atI xs i = some d from e)
      exact ix_list vE sE pins s σ _ x _ v u Q I rx ry ⟨p, vs, i, w, e1, rfl, h1.sq, h2, q _ h3⟩ hs
    | tuple xs =>
      obtain ⟨p, vs, e1, h1, r1⟩ := ra.tup
      obtain ⟨w, h2, h3⟩ := atI_map r1 (show atI xs i = some d from e)
      exact ix_tup vE sE pins s σ _ x _ v u Q I rx ry ⟨p, vs, i, w, e1, rfl, seqT_mono gh h1, h2, q _ h3⟩ hs
    | str z =>
      cases ra.str
      simp only [idxV] at e
      split at e
      · rename_i hz
        cases q2 : atI z.cps.toList i with
        | none => rw [q2] at e; cases e
        | some c =>
          rw [q2] at e
          cases e
          exact ix_str vE sE pins s σ _ _ _ v u Q I rx ry ⟨z, i, c, rfl, rfl, fitsL_ok hz, q2, q _ (.str _)⟩ hs
      · cases e
    | dict ds => exact dic rfl
    | _ => cases e
  | _ =>
    cases a with
    | dict ds => exact dic rfl
    | _ => cases e
theorem cut_map {K : Frg} {H : Hp} {vs : List V} {ds : List D} (r : RpAll K H vs ds) (lo hi : Option Int) : RpAll K H (cutV vs lo hi) (cutD ds lo hi) := by
  unfold cutV cutD
  rw [r.length]
  exact (r.drop _).take _
theorem cutD_whole {α : Type} {xs : List α} {lo hi : Option Int} (h : HT.sIx xs.length 0 lo = 0 ∧ HT.sIx xs.length xs.length hi = xs.length) : cutD xs lo hi = xs := by
  unfold cutD
  rw [h.1, h.2]
  simp
def Rs3 (K : Frg) : V → Option Int → Option Int → Hp → VK → Prop := fun x lo hi H Q => ∃ (W : Wd) (a : D) (r : Rv), W.H = H ∧ Same W.G W.H ∧ Rt K W x a ∧ slcV a lo hi = some r ∧ ∀ v W', New K W r v W' → Q v W'.H
theorem sl_V {X : Cx} : SlR X (Rs3 X.K) := by
  intro pins s σ H x v vl vu lo hi sl Q I rx hs pl pu ⟨W, a, r, eH, gh, ra, e, q⟩
  subst eH
  cases a with
  | list xs =>
    obtain ⟨p, vs, e1, h1, r1⟩ := ra.lst
    cases e
    exact sl_list pins s σ _ x v vl vu lo hi sl Q I rx hs pl pu ⟨p, vs, e1, h1.sq, fun l hl => q _ _ (.lst hl (cut_map r1 lo hi))⟩
  | tuple xs =>
    obtain ⟨p, vs, e1, h1, r1⟩ := ra.tup
    cases e
    have hl := r1.length
    refine sl_tupA pins s σ _ x v vl vu lo hi sl Q I rx hs pl pu ⟨p, vs, e1, seqT_mono gh h1, fun z => ?_, fun _ l hl => q _ _ (.tup hl (cut_map r1 lo hi))⟩
    rw [hl] at z
    rw [cutD_whole z] at q
    exact q _ _ (.old (.tup h1 r1))
  | str z =>
    cases ra.str
    simp only [slcV] at e
    split at e
    · rename_i hz
      cases e
      exact sl_str pins s σ _ _ v vl vu lo hi sl Q I rx hs pl pu ⟨z, rfl, fitsL_ok hz, q _ _ (.old (.str _))⟩
    · cases e
  | _ => cases e
end PV
set_option Elab.async false
set_option linter.all false
set_option autoImplicit false
set_option maxRecDepth 100000
set_option maxHeartbeats 1000000
/-! PV: the built-ins by values. -/
namespace PV
open PySem PySem.Spec PyProof.Rows L2

theorem keyIs_read {h : Heap} {k : Key} {u : Value} (e : keyIs k u = true) : Reads h u (kD k) [] := by
  obtain ⟨i, t, e1, e2⟩ | ⟨x, t, e1, e2⟩ := keyIs_shape e
  · subst e1 e2; exact Reads.int i t
  · subst e1 e2; exact Reads.str x t
section
variable {X : Cx} {pins : List (Addr × Obj)} {σ : L2.St} {H : Hp} {s : Shared}
theorem key_rk {h : Heap} {k : Key} {u : Value} (e : keyIs k u = true) (hs : (kD k).showable = true) (hz : (kD k).shown.length ≤ sizeLine) : Reads h u (kD k) [] ∧ ReprK X.prog X.w [] h 0 u (kD k).shown := by
  refine ⟨keyIs_read e, ?_⟩
  obtain ⟨i, t, e1, e2⟩ | ⟨x, t, e1, e2⟩ := keyIs_shape e
  · subst e1 e2
    simp only [kD, PyData.shown] at hz ⊢
    exact .of_is (ReprIs.int t (by simpa [kD, PyData.showable] using hs)) _ _ _
  · subst e1 e2
    simp only [kD, PyData.shown] at hz ⊢
    exact .of_is (ReprIs.str x t hz) _ _ _
mutual
/-- data of any kind, shown; only a dict asks that it is not the table of modules -/
theorem Rp.rk (I : Inv X pins σ H s) : ∀ {v : V} {d : D} {u : Value}, Rp X.K H v d → RelV v u → d.showable = true → d.shown.length ≤ sizeLine → ∃ as bs, Reads s.heap u d as ∧ ReadAtMost s.heap d.depth bs ∧ ReprK X.prog X.w bs s.heap d.depth u d.shown
  | _, _, _, .non, r, _, _ => by cases r; exact ⟨_, [], Reads.none, fun _ h => (nomatch h), by simp only [PyData.shown]; exact .of_is ReprIs.none _ _ _⟩
  | _, _, _, .bl b, r, _, _ => by cases r; exact ⟨_, [], Reads.bool b, fun _ h => (nomatch h), by simp only [PyData.shown]; exact .of_is (ReprIs.bool b) _ _ _⟩
  | _, _, _, .int i, r, hs, _ => by obtain ⟨t, e⟩ := r; subst e; exact ⟨_, [], Reads.int i t, fun _ h => (nomatch h), by simp only [PyData.shown]; exact .of_is (ReprIs.int t (by simpa [PyData.showable] using hs)) _ _ _⟩
  | _, _, _, .str x, r, _, hz => by obtain ⟨t, e⟩ := r; subst e; exact ⟨_, [], Reads.str x t, fun _ h => (nomatch h), by simp only [PyData.shown] at hz ⊢; exact .of_is (ReprIs.str x t hz) _ _ _⟩
  | _, _, _, .lst (a := a) (vs := vs) (ds := xs) hq ha, r, hs, hz => by
    cases r
    have hz' : (listText (PyData.shownAll xs)).length ≤ sizeLine := by simpa only [PyData.shown] using hz
    obtain ⟨its, n, rv, _, _, ho⟩ := hq.at I
    obtain ⟨as, bs, q1, q2, q3⟩ := RpAll.rk I ha rv (by simpa [PyData.showable] using hs) (fun t ht => Nat.le_trans (listText_mem_le ht) hz')
    have rd : Reads s.heap (.ref a) (.list xs) (a :: as) := .list ho rfl rfl (by simpa using q1)
    have hna : a ∉ bs := not_mem_of_deeper rd (by simp only [PyData.depth]; omega) q2
    refine ⟨_, a :: bs, rd, ReadAtMost.cons rd (by simp only [PyData.depth]; omega) q2, ?_⟩
    simp only [PyData.depth, PyData.shown]
    cases its with
    | nil =>
      cases rv
      cases ha
      simp only [PyData.shownAll, listText_nil]
      exact ReprK.listEmpty ho rfl rfl
    | cons x l => exact ReprK.list ho rfl rfl hna (by simpa using q3.length_eq) (fun i y e => q3.item i y (by simpa using e))
  | _, _, _, .tup (a := a) (vs := vs) (ds := xs) hq ha, r, hs, hz => by
    cases r
    have hz' : (tupleText (PyData.shownAll xs)).length ≤ sizeLine := by simpa only [PyData.shown] using hz
    obtain ⟨its, rv, ⟨o, ho, hc, n, hd⟩, _⟩ := I.tuple hq
    obtain ⟨as, bs, q1, q2, q3⟩ := RpAll.rk I ha rv (by simpa [PyData.showable] using hs) (fun t ht => Nat.le_trans (tupleText_mem_le ht) hz')
    have rd : Reads s.heap (.ref a) (.tuple xs) as := .tuple ho hc hd (by simpa using q1)
    have hna : a ∉ bs := not_mem_of_deeper rd (by simp only [PyData.depth]; omega) q2
    refine ⟨_, a :: bs, rd, ReadAtMost.cons rd (by simp only [PyData.depth]; omega) q2, ?_⟩
    simp only [PyData.depth, PyData.shown]
    exact ReprK.tuple ho hc hd hna (by simpa using q3)
  | _, _, _, .dct (a := a) (kvs := kvs) (ds := ds) h1 ha, r, hs, hz => by
    cases r
    have hz' : (dictText (PyData.shownKv ds)).length ≤ sizeLine := by simpa only [PyData.shown] using hz
    obtain ⟨_, hy, vs, kv, o, es, ep, ho, hx, hd, hk, hp, _⟩ := I.hok a _ h1
    obtain ⟨hs1, hs2⟩ := PyData.showableKv_split ds (by simpa [PyData.showable] using hs)
    obtain ⟨as, bs, cs, q1, q2, q3, q4, q5⟩ := RpKV.rk I ha kv hp hs1 hs2 (fun t ht => let ⟨p, hp, hl⟩ := PyData.shownKv_key_le ds t ht; Nat.le_trans hl (Nat.le_trans (dictText_mem_le hp) hz')) (fun t ht => let ⟨p, hp, hl⟩ := PyData.shownKv_val_le ds t ht; Nat.le_trans hl (Nat.le_trans (dictText_mem_le hp) hz'))
    have rd : Reads s.heap (.ref a) (.dict ds) _ := .dict ho hx.1 hd q1 q2
    have hb : ReadAtMost s.heap (PyData.depthKv ds) cs := q3
    have hna : a ∉ cs := not_mem_of_deeper rd (by simp only [PyData.depth]; omega) hb
    refine ⟨_, a :: cs, rd, ReadAtMost.cons rd (by simp only [PyData.depth]; omega) hb, ?_⟩
    simp only [PyData.depth, PyData.shown, PyData.shownKv_eq]
    exact ReprK.dict ho hx.1 hd hy hna (ReprEntriesK.of_two es.toList _ _ (q4.more_le (fun _ h => h) (PyData.depthAll_keys_le ds)) (q5.more_le (fun _ h => h) (PyData.depthAll_vals_le ds)))
theorem RpAll.rk (I : Inv X pins σ H s) : ∀ {vs : List V} {ds : List D} {us : List Value}, RpAll X.K H vs ds → Vals vs us → PyData.showableAll ds = true → (∀ t ∈ PyData.shownAll ds, t.length ≤ sizeLine) →
    ∃ as bs, ReadsAll s.heap us ds as ∧ ReadAtMost s.heap (PyData.depthAll ds) bs ∧ ReprAllK X.prog X.w bs s.heap (PyData.depthAll ds) us (PyData.shownAll ds)
  | _, _, _, .nil, r, _, _ => by cases r; exact ⟨_, [], ReadsAll.nil, (fun _ h => nomatch h), by simp only [PyData.shownAll]; exact .nil⟩
  | _, _, _, .cons (d := d) (ds := ds) h1 h2, r, hs, hz => by
    cases r with
    | cons r1 r2 =>
      have hs' : d.showable = true ∧ PyData.showableAll ds = true := by simpa [PyData.showableAll] using hs
      obtain ⟨as, bs, q1, q2, q3⟩ := Rp.rk I h1 r1 hs'.1 (hz _ (by simp only [PyData.shownAll]; exact List.mem_cons_self ..))
      obtain ⟨as', bs', k1, k2, k3⟩ := RpAll.rk I h2 r2 hs'.2 (fun t ht => hz t (by simp only [PyData.shownAll]; exact List.mem_cons_of_mem _ ht))
      refine ⟨_, bs ++ bs', ReadsAll.cons q1 k1, ?_, ?_⟩
      · exact (q2.mono (by simp only [PyData.depthAll]; omega)).append (k2.mono (by simp only [PyData.depthAll]; omega))
      · simp only [PyData.depthAll, PyData.shownAll]
        exact .cons ((q3.more fun b hb => List.mem_append_left _ hb).level_le (Nat.le_max_left _ _)) (k3.more_le (fun b hb => List.mem_append_right _ hb) (Nat.le_max_right _ _))
theorem RpKV.rk (I : Inv X pins σ H s) : ∀ {kvs : List (Key × V)} {ds : List (D × D)} {vs : List (Key × Value)} {es : List DictEntry}, RpKV X.K H kvs ds → KV kvs vs → Pairs (mixKind X.prog X.w) es vs → PyData.showableAll (ds.map (·.1)) = true → PyData.showableAll (ds.map (·.2)) = true →
    (∀ t ∈ PyData.shownAll (ds.map (·.1)), t.length ≤ sizeLine) → (∀ t ∈ PyData.shownAll (ds.map (·.2)), t.length ≤ sizeLine) →
    ∃ as bs cs, ReadsAll s.heap (es.map (·.key)) (ds.map (·.1)) as ∧ ReadsAll s.heap (es.map (·.val)) (ds.map (·.2)) bs ∧ ReadAtMost s.heap (PyData.depthKv ds) cs ∧
      ReprAllK X.prog X.w cs s.heap (PyData.depthAll (ds.map (·.1))) (es.map (·.key)) (PyData.shownAll (ds.map (·.1))) ∧ ReprAllK X.prog X.w cs s.heap (PyData.depthAll (ds.map (·.2))) (es.map (·.val)) (PyData.shownAll (ds.map (·.2)))
  | _, _, _, _, .nil, r, p, _, _, _, _ => by
    cases r
    cases p
    exact ⟨_, _, [], ReadsAll.nil, ReadsAll.nil, (fun _ h => nomatch h), by simp only [List.map_nil, PyData.shownAll]; exact .nil, by simp only [List.map_nil, PyData.shownAll]; exact .nil⟩
  | _, _, _, _, .cons (k := k) (d := d) (ds := ds) h1 h2, r, p, s1, s2, z1, z2 => by
    cases r with
    | cons r1 r2 =>
      cases p with
      | cons p1 p3 p2 =>
        obtain ⟨e1, r1⟩ := r1
        rw [← e1] at p1
        rw [← p3] at r1
        have s1' : (kD k).showable = true ∧ PyData.showableAll (ds.map (·.1)) = true := by simpa [PyData.showableAll] using s1
        have s2' : d.showable = true ∧ PyData.showableAll (ds.map (·.2)) = true := by simpa [PyData.showableAll] using s2
        obtain ⟨q1, q2⟩ := key_rk (X := X) (h := s.heap) p1 s1'.1 (z1 _ (by simp only [List.map_cons, PyData.shownAll]; exact List.mem_cons_self ..))
        obtain ⟨as, bs, k1, k2, k3⟩ := Rp.rk I h1 r1 s2'.1 (z2 _ (by simp only [List.map_cons, PyData.shownAll]; exact List.mem_cons_self ..))
        obtain ⟨as', bs', cs', m1, m2, m3, m4, m5⟩ := RpKV.rk I h2 r2 p2 s1'.2 s2'.2 (fun t ht => z1 t (by simp only [List.map_cons, PyData.shownAll]; exact List.mem_cons_of_mem _ ht)) (fun t ht => z2 t (by simp only [List.map_cons, PyData.shownAll]; exact List.mem_cons_of_mem _ ht))
        refine ⟨_, _, bs ++ cs', ReadsAll.cons q1 m1, ReadsAll.cons k1 m2, ?_, ?_, ?_⟩
        · exact (k2.mono (by simp only [PyData.depthKv]; omega)).append (m3.mono (by simp only [PyData.depthKv]; omega))
        · simp only [List.map_cons, PyData.depthAll, PyData.shownAll]
          exact .cons ((q2.more fun b hb => (nomatch hb)).level_le (Nat.zero_le _)) (m4.more_le (fun b hb => List.mem_append_right _ hb) (Nat.le_max_right _ _))
        · simp only [List.map_cons, PyData.depthAll, PyData.shownAll]
          exact .cons ((k3.more fun b hb => List.mem_append_left _ hb).level_le (Nat.le_max_left _ _)) (m5.more_le (fun b hb => List.mem_append_right _ hb) (Nat.le_max_right _ _))
end
/-- how the made things show -/
theorem Rp.showsBy (I : Inv X pins σ H s) {a : Addr} {d : D} (h : Rp X.K H (.ref a) d) (hs : d.showable = true) (hsz : d.shown.length ≤ sizeLine) : ∃ T idr, ShowsBy X.prog X.w s.heap a d T idr := by
  cases h with
  | lst hq ha =>
    rename_i vs xs
    have hz' : (listText (PyData.shownAll xs)).length ≤ sizeLine := by simpa only [PyData.shown] using hsz
    obtain ⟨its, n, rv, _, _, ho⟩ := hq.at I
    obtain ⟨as, bs, q1, q2, q3⟩ := RpAll.rk I ha rv (by simpa [PyData.showable] using hs) (fun t ht => Nat.le_trans (listText_mem_le ht) hz')
    have rd : Reads s.heap (.ref a) (.list xs) (a :: as) := .list ho rfl rfl (by simpa using q1)
    have hna : a ∉ bs := not_mem_of_deeper rd (by simp only [PyData.depth]; omega) q2
    refine ⟨"list", "list.__repr__", F.slot_list_repr.toG, F.slot_list_str, F.slot_list_format, fun s hk0 => ⟨_, hk0 _ _ ho, rfl⟩, fun A E s Q hg hu hk0 hQ => ?_⟩
    simp only [PyData.depth] at hu
    simp only [PyData.shown] at hQ
    cases its with
    | nil =>
      cases rv
      cases ha
      simp only [PyData.shownAll, listText_nil] at hQ
      exact call_list_repr_empty ⟨_, hk0 _ _ ho, rfl⟩ (hk0 _ _ ho) rfl (hQ s.heap _ _ fun _ _ e => e)
    | cons x l => exact call_list_reprK ho rfl rfl hna (by simpa using q3.length_eq) (fun i y e => q3.item i y (by simpa using e)) hg (fun b _ => Clear.nil b) hu hk0 hQ hz'
  | tup hq ha =>
    rename_i vs xs
    have hz' : (tupleText (PyData.shownAll xs)).length ≤ sizeLine := by simpa only [PyData.shown] using hsz
    obtain ⟨its, rv, ⟨o, ho, hc, n, hd⟩, _⟩ := I.tuple hq
    obtain ⟨as, bs, q1, q2, q3⟩ := RpAll.rk I ha rv (by simpa [PyData.showable] using hs) (fun t ht => Nat.le_trans (tupleText_mem_le ht) hz')
    have rd : Reads s.heap (.ref a) (.tuple xs) as := .tuple ho hc hd (by simpa using q1)
    have hna : a ∉ bs := not_mem_of_deeper rd (by simp only [PyData.depth]; omega) q2
    refine ⟨"tuple", "tuple.__repr__", F.slot_tuple_repr, F.slot_tuple_str, F.slot_tuple_format, fun s hk0 => ⟨o, hk0 _ _ ho, hc⟩, fun A E s Q hg hu hk0 hQ => ?_⟩
    simp only [PyData.depth] at hu
    simp only [PyData.shown] at hQ
    exact call_tuple_reprK ho hc hd hna (by simpa using q3) hg (fun b _ => Clear.nil b) hu hk0 hQ hz'
  | dct h1 ha =>
    rename_i kvs ds
    have hz' : (dictText (PyData.shownKv ds)).length ≤ sizeLine := by simpa only [PyData.shown] using hsz
    obtain ⟨_, hy, vs, kv, o, es, ep, ho, hx, hd, hk, hp, _⟩ := I.hok a _ h1
    obtain ⟨hs1, hs2⟩ := PyData.showableKv_split ds (by simpa [PyData.showable] using hs)
    obtain ⟨as, bs, cs, q1, q2, q3, q4, q5⟩ := RpKV.rk I ha kv hp hs1 hs2 (fun t ht => let ⟨p, hp, hl⟩ := PyData.shownKv_key_le ds t ht; Nat.le_trans hl (Nat.le_trans (dictText_mem_le hp) hz')) (fun t ht => let ⟨p, hp, hl⟩ := PyData.shownKv_val_le ds t ht; Nat.le_trans hl (Nat.le_trans (dictText_mem_le hp) hz'))
    have rd : Reads s.heap (.ref a) (.dict ds) _ := .dict ho hx.1 hd q1 q2
    have hna : a ∉ cs := not_mem_of_deeper rd (by simp only [PyData.depth]; omega) q3
    refine ⟨"dict", "dict.__repr__", F.slot_dict_repr, F.slot_dict_str, F.slot_dict_format, fun s hk0 => ⟨o, hk0 _ _ ho, hx.1⟩, fun A E s Q hg hu hk0 hQ => ?_⟩
    simp only [PyData.depth] at hu
    simp only [PyData.shown, PyData.shownKv_eq] at hQ
    exact call_dict_reprK ho hx.1 hd hy hna (ReprEntriesK.of_two es.toList _ _ (q4.more_le (fun _ h => h) (PyData.depthAll_keys_le ds)) (q5.more_le (fun _ h => h) (PyData.depthAll_vals_le ds))) hg (fun b _ => Clear.nil b) hu hk0 hQ (by rw [← PyData.shownKv_eq]; exact hz')
theorem call_reprV (hg : X.A.guards = some []) (hu : X.A.units + 66 < cLine) : CallR X (.builtin "repr") (Rts X.K (biV .repr)) := by
  intro pins s σ H xs us Q I r ⟨W, ds, z, eH, gh, ra, e, q⟩
  subst eH
  cases ra with
  | nil => cases e
  | cons ra rt =>
    cases rt with
    | cons _ _ => cases e
    | nil =>
      rename_i x d
      obtain ⟨u, eu, ru⟩ := vals1 r
      subst eu
      simp only [biV] at e
      split at e
      · rename_i hz
        cases e
        simp only [reprOk, Bool.and_eq_true, decide_eq_true_eq] at hz
        obtain ⟨⟨z1, z3⟩, z4⟩ := hz
        have z4 := fitsL_ok z4
        have h := ra.rp gh
        have fin : ∀ (h' : Heap) (t : Tok) (tk : Nat), (∀ b o, s.heap.get? b = some o → h'.get? b = some o) → EP X pins σ Q (.str d.shown t) { s with heap := h', toks := tk } := fun h' t tk hk =>
          ⟨.str d.shown, W.H, I.kept hk, ⟨t, rfl⟩, q _ _ (.old (.str _))⟩
        have fin0 : ∀ (t : Tok) (tk : Nat), EP X pins σ Q (.str d.shown t) { s with toks := tk } := fun t tk => fin s.heap t tk fun _ _ e => e
        have made : ∀ {a : Addr}, x = .ref a → wpAny (model X.prog X.w) X.A (call (.builtin "repr") [u]) (EP X pins σ Q) X.xe s := fun {a} ex => by
          subst ex
          cases ru
          obtain ⟨T, idr, S⟩ := h.showsBy I z1 z4
          exact call_repr_slot (by omega) (S.typeIs s fun _ _ e => e) S.slotRepr (S.call X.A.in1 _ s _ hg (by show X.A.units + 1 + d.depth < cLine; omega) (fun _ _ e => e) fun h' u tk hk => ⟨_, _, rfl, fin h' u tk hk⟩)
        cases d with
        | none =>
          cases h; cases ru
          have := fin0 s.toks (s.toks + 1)
          rw [PyData.shown_none] at this
          exact PySem.P.repr_of_none this
        | bool b =>
          cases h; cases ru
          have := fin0 s.toks (s.toks + 1)
          rw [PyData.shown_bool] at this
          exact PySem.P.repr_of_bool (by cases b <;> exact this)
        | int i =>
          cases h; obtain ⟨t, e⟩ := ru; subst e
          have := fin0 s.toks (s.toks + 1)
          rw [PyData.shown_int] at this
          exact PySem.P.repr_of_int (by simpa [PyData.showable] using z1) this
        | str y =>
          cases h; obtain ⟨t, e⟩ := ru; subst e
          have := fin0 s.toks (s.toks + 1)
          rw [PyData.shown_str] at this z4
          exact PySem.P.repr_of_str this z4
        | list ys => obtain ⟨a, vs, e1, _⟩ := h.of_lst; exact made e1
        | tuple ys => obtain ⟨a, vs, e1, _⟩ := h.of_tup; exact made e1
        | dict ys => obtain ⟨a, vs, e1, _⟩ := h.of_dct; exact made e1
      · cases e
end
/-! ### the others -/
theorem boolsOf_map {K : Frg} {H : Hp} : ∀ {vs : List V} {ds : List D} {bs : List Bool}, RpAll K H vs ds → boolsOf ds = some bs → vs = bs.map V.bl
  | _, _, _, .nil, e => by cases e; rfl
  | _ :: vs, d :: ds, bs, .cons r t, e => by
    cases d with
    | bool b =>
      simp only [boolsOf] at e
      cases q : boolsOf ds with
      | none => rw [q] at e; cases e
      | some cs =>
        rw [q] at e
        cases e
        cases r
        rw [boolsOf_map t q]
        rfl
    | _ => cases e
theorem intsOf_map {K : Frg} {H : Hp} : ∀ {vs : List V} {ds : List D} {bs : List Int}, RpAll K H vs ds → intsOf ds = some bs → vs = bs.map V.int
  | _, _, _, .nil, e => by cases e; rfl
  | _ :: vs, d :: ds, bs, .cons r t, e => by
    cases d with
    | int b =>
      simp only [intsOf] at e
      cases q : intsOf ds with
      | none => rw [q] at e; cases e
      | some cs =>
        rw [q] at e
        cases e
        cases r
        rw [intsOf_map t q]
        rfl
    | _ => cases e
theorem strsOf_map {K : Frg} {H : Hp} : ∀ {vs : List V} {ds : List D} {bs : List Str}, RpAll K H vs ds → strsOf ds = some bs → vs = bs.map V.str
  | _, _, _, .nil, e => by cases e; rfl
  | _ :: vs, d :: ds, bs, .cons r t, e => by
    cases d with
    | str b =>
      simp only [strsOf] at e
      cases q : strsOf ds with
      | none => rw [q] at e; cases e
      | some cs =>
        rw [q] at e
        cases e
        cases r
        rw [strsOf_map t q]
        rfl
    | _ => cases e
theorem klOf_map {K : Frg} {H : Hp} {vs : List V} {ds : List D} {L : Kl} (r : RpAll K H vs ds) (e : klOf ds = some L) : vs = L.vs := by
  unfold klOf at e
  cases q : intsOf ds with
  | some ns => rw [q] at e; cases e; exact intsOf_map r q
  | none =>
    rw [q] at e
    cases q2 : strsOf ds with
    | none => rw [q2] at e; cases e
    | some xs => rw [q2] at e; cases e; exact strsOf_map r q2
theorem kl_rp {K : Frg} {H : Hp} (L : Kl) : RpAll K H L.vs L.ds := by
  cases L with
  | nums ns => exact RpAll.intsR ns
  | txts xs =>
    show RpAll K H (xs.map V.str) (xs.map PyData.str)
    induction xs with
    | nil => exact .nil
    | cons x xs ih => exact .cons (.str x) ih
theorem maxF_mem : ∀ (xs : List Int) (x : Int), xs.foldl (fun a b => if b > a then b else a) x ∈ x :: xs
  | [], x => by simp
  | y :: xs, x => by
    rw [List.foldl_cons]
    have := maxF_mem xs (if y > x then y else x)
    rw [List.mem_cons] at this
    rcases this with h | h
    · rw [h]; split <;> simp
    · simp [h]
theorem maxF_le : ∀ (xs : List Int) (x : Int), x ≤ xs.foldl (fun a b => if b > a then b else a) x ∧ ∀ y ∈ xs, y ≤ xs.foldl (fun a b => if b > a then b else a) x
  | [], x => by simp
  | y :: xs, x => by
    rw [List.foldl_cons]
    obtain ⟨h1, h2⟩ := maxF_le xs (if y > x then y else x)
    have h3 : x ≤ (if y > x then y else x) ∧ y ≤ (if y > x then y else x) := by split <;> omega
    refine ⟨by omega, fun z hz => ?_⟩
    rw [List.mem_cons] at hz
    rcases hz with h | h
    · subst h; omega
    · exact h2 z h
theorem maxI_spec {ns : List Int} (hn : ns ≠ []) : maxI ns ∈ ns ∧ ∀ y ∈ ns, y ≤ maxI ns := by
  cases ns with
  | nil => exact absurd rfl hn
  | cons x xs =>
    refine ⟨maxF_mem xs x, fun y hy => ?_⟩
    obtain ⟨h1, h2⟩ := maxF_le xs x
    rw [List.mem_cons] at hy
    rcases hy with h | h
    · subst h; exact h1
    · exact h2 y h
theorem minF_mem : ∀ (xs : List Int) (x : Int), xs.foldl (fun a b => if b < a then b else a) x ∈ x :: xs
  | [], x => by simp
  | y :: xs, x => by
    rw [List.foldl_cons]
    have := minF_mem xs (if y < x then y else x)
    rw [List.mem_cons] at this
    rcases this with h | h
    · rw [h]; split <;> simp
    · simp [h]
theorem minF_le : ∀ (xs : List Int) (x : Int), xs.foldl (fun a b => if b < a then b else a) x ≤ x ∧ ∀ y ∈ xs, xs.foldl (fun a b => if b < a then b else a) x ≤ y
  | [], x => by simp
  | y :: xs, x => by
    rw [List.foldl_cons]
    obtain ⟨h1, h2⟩ := minF_le xs (if y < x then y else x)
    have h3 : (if y < x then y else x) ≤ x ∧ (if y < x then y else x) ≤ y := by split <;> omega
    refine ⟨by omega, fun z hz => ?_⟩
    rw [List.mem_cons] at hz
    rcases hz with h | h
    · subst h; omega
    · exact h2 z h
theorem minI_spec {ns : List Int} (hn : ns ≠ []) : minI ns ∈ ns ∧ ∀ y ∈ ns, minI ns ≤ y := by
  cases ns with
  | nil => exact absurd rfl hn
  | cons x xs =>
    refine ⟨minF_mem xs x, fun y hy => ?_⟩
    obtain ⟨h1, h2⟩ := minF_le xs x
    rw [List.mem_cons] at hy
    rcases hy with h | h
    · subst h; exact h1
    · exact h2 y h
/-- the built-in's value: a function or a type -/
def biF : BI → Value
  | .len => .builtin "len" | .abs => .builtin "abs" | .int => .type "int" | .tuple => .type "tuple" | .list => .type "list" | .repr => .builtin "repr" | .str => .type "str"
  | .max => .builtin "max" | .min => .builtin "min" | .all => .builtin "all" | .any => .builtin "any" | .sum => .builtin "sum" | .sorted => .builtin "sorted"
def biN : BI → Str
  | .len => "len" | .abs => "abs" | .int => "int" | .tuple => "tuple" | .list => "list" | .repr => "repr" | .str => "str"
  | .max => "max" | .min => "min" | .all => "all" | .any => "any" | .sum => "sum" | .sorted => "sorted"
theorem RtAll.one {K : Frg} {W : Wd} {xs : List V} {d : D} (h : RtAll K W xs [d]) : ∃ x, xs = [x] ∧ Rt K W x d := by
  cases h with
  | cons h t => cases t; exact ⟨_, rfl, h⟩
theorem RtAll.two {K : Frg} {W : Wd} {xs : List V} {d e : D} (h : RtAll K W xs [d, e]) : ∃ x y, xs = [x, y] ∧ Rt K W x d ∧ Rt K W y e := by
  cases h with
  | cons h t =>
    cases t with
    | cons h' t => cases t; exact ⟨_, _, rfl, h, h'⟩
section
variable {X : Cx}
theorem signs_rp {K : Frg} {G : Hp} : ∀ cs : List Nat, RpAll K G (cs.map fun c => V.str ⟨#[c]⟩) (cs.map fun c => PyData.str ⟨#[c]⟩)
  | [] => .nil
  | _ :: cs => .cons (.str _) (signs_rp cs)
theorem call_biV (hc : X.calm = true) (hg : X.A.guards = some []) (hu : X.A.units + 66 < cLine) (b : BI) : CallR X (biF b) (Rts X.K (biV b)) := by
  intro pins s σ H xs us Q I r ⟨W, ds, z, eH, gh, ra, e, q⟩
  cases b with
  | repr => exact call_reprV hg hu pins s σ H xs us Q I r ⟨W, ds, z, eH, gh, ra, e, q⟩
  | len =>
    subst eH
    match ds, e, ra with
    | [.list ys], e, ra =>
      obtain ⟨x, e1, h⟩ := ra.one
      obtain ⟨a, vs, e2, h1, r1⟩ := h.lst
      subst e1 e2; cases e
      have hl := r1.length
      exact call_len pins s σ _ _ us Q I r ⟨_, ys.length, rfl, .inl ⟨vs, h1.sq, hl.symm⟩, q _ _ (.old (.int _))⟩
    | [.tuple ys], e, ra =>
      obtain ⟨x, e1, h⟩ := ra.one
      obtain ⟨a, vs, e2, h1, r1⟩ := h.tup
      subst e1 e2; cases e
      have hl := r1.length
      exact call_len pins s σ _ _ us Q I r ⟨_, ys.length, rfl, .inr ⟨vs, seqT_mono gh h1, hl.symm⟩, q _ _ (.old (.int _))⟩
    | [.str y], e, ra =>
      obtain ⟨x, e1, h⟩ := ra.one
      cases h.str
      subst e1
      simp only [biV] at e
      split at e
      · rename_i hz
        cases e
        exact call_len pins s σ _ _ us Q I r ⟨_, y.length, rfl, ⟨fitsL_ok hz, rfl⟩, q _ _ (.old (.int _))⟩
      · cases e
    | [.dict ys], e, ra =>
      obtain ⟨x, e1, h⟩ := ra.one
      obtain ⟨a, vs, e2, h1, r1⟩ := h.dct
      subst e1 e2; cases e
      have hl := rpkv_len r1
      exact call_lenD pins s σ _ _ us Q I r ⟨_, vs, rfl, h1, by rw [hl]; exact q _ _ (.old (.int _))⟩
  | abs =>
    subst eH
    match ds, e, ra with
    | [.int i], e, ra =>
      obtain ⟨x, e1, h⟩ := ra.one
      cases h.int
      subst e1; cases e
      exact call_abs pins s σ _ _ us Q I r ⟨i, rfl, q _ _ (.old (.int _))⟩
  | int =>
    subst eH
    match ds, e, ra with
    | [.int i], e, ra =>
      obtain ⟨x, e1, h⟩ := ra.one
      cases h.int
      subst e1; cases e
      exact call_int1 pins s σ _ _ us Q I r (.inl ⟨i, rfl, q _ _ (.old (.int _))⟩)
    | [.bool i], e, ra =>
      obtain ⟨x, e1, h⟩ := ra.one
      cases h.bool
      subst e1; cases e
      exact call_int1 pins s σ _ _ us Q I r (.inr ⟨i, rfl, q _ _ (.old (.int _))⟩)
  | tuple =>
    subst eH
    match ds, e, ra with
    | [.list ys], e, ra =>
      obtain ⟨x, e1, h⟩ := ra.one
      obtain ⟨a, vs, e2, h1, r1⟩ := h.lst
      subst e1 e2; cases e
      exact call_tuple_of pins s σ _ _ us Q I r ⟨a, vs, rfl, .inl ⟨h1.sq, fun l hl => q _ _ (.tup hl r1)⟩⟩
    | [.tuple ys], e, ra =>
      obtain ⟨x, e1, h⟩ := ra.one
      obtain ⟨a, vs, e2, h1, r1⟩ := h.tup
      subst e1 e2; cases e
      exact call_tuple_of pins s σ _ _ us Q I r ⟨a, vs, rfl, .inr ⟨seqT_mono gh h1, q _ _ (.old (.tup h1 r1))⟩⟩
    | [.str x], e, ra =>
      obtain ⟨y, e1, h⟩ := ra.one
      cases h.str
      subst e1
      simp only [biV] at e
      split at e
      · rename_i hf
        cases e
        exact call_tupleS hc pins s σ _ _ us Q I r ⟨x, rfl, fitsL_ok hf, fun l hl => q _ _ (.tup hl (signs_rp _))⟩
      · cases e
  | list =>
    subst eH
    match ds, e, ra with
    | [.list ys], e, ra =>
      obtain ⟨x, e1, h⟩ := ra.one
      obtain ⟨a, vs, e2, h1, r1⟩ := h.lst
      subst e1 e2; cases e
      exact call_list_of pins s σ _ _ us Q I r ⟨a, vs, rfl, .inl h1.sq, fun l hl => q _ _ (.lst hl r1)⟩
    | [.tuple ys], e, ra =>
      obtain ⟨x, e1, h⟩ := ra.one
      obtain ⟨a, vs, e2, h1, r1⟩ := h.tup
      subst e1 e2; cases e
      exact call_list_of pins s σ _ _ us Q I r ⟨a, vs, rfl, .inr (seqT_mono gh h1), fun l hl => q _ _ (.lst hl r1)⟩
  | str =>
    subst eH
    match ds, e, ra with
    | [.int i], e, ra =>
      obtain ⟨x, e1, h⟩ := ra.one
      cases h.int
      subst e1
      simp only [biV] at e
      split at e
      · rename_i hz
        cases e
        exact call_str_int pins s σ _ _ us Q I r ⟨i, rfl, of_decide_eq_true hz, q _ _ (.old (.str _))⟩
      · cases e
  | max =>
    subst eH
    match ds, e, ra with
    | [.int i, .int j], e, ra =>
      obtain ⟨x, y, e1, h, h'⟩ := ra.two
      cases h.int; cases h'.int
      subst e1; cases e
      exact call_max2 hc pins s σ _ _ us Q I r ⟨i, j, rfl, q _ _ (.old (.int _))⟩
    | [.list ys], e, ra =>
      obtain ⟨x, e1, h⟩ := ra.one
      obtain ⟨a, vs, e2, h1, r1⟩ := h.lst
      subst e1 e2
      simp only [biV] at e
      split at e
      · rename_i n ns hn
        cases e
        cases intsOf_map r1 hn
        refine cr_max hc pins s σ _ _ us Q I r ⟨a, n :: ns, rfl, h1.sq, by simp, fun m h1 h2 => ?_⟩
        obtain ⟨k1, k2⟩ := maxI_spec (ns := n :: ns) (by simp)
        have : m = maxI (n :: ns) := Int.le_antisymm (k2 m h1) (h2 _ k1)
        subst this
        exact q _ _ (.old (.int _))
      · cases e
  | min =>
    subst eH
    match ds, e, ra with
    | [.int i, .int j], e, ra =>
      obtain ⟨x, y, e1, h, h'⟩ := ra.two
      cases h.int; cases h'.int
      subst e1; cases e
      exact call_min2 hc pins s σ _ _ us Q I r ⟨i, j, rfl, q _ _ (.old (.int _))⟩
    | [.list ys], e, ra =>
      obtain ⟨x, e1, h⟩ := ra.one
      obtain ⟨a, vs, e2, h1, r1⟩ := h.lst
      subst e1 e2
      simp only [biV] at e
      split at e
      · rename_i n ns hn
        cases e
        cases intsOf_map r1 hn
        refine cr_min hc pins s σ _ _ us Q I r ⟨a, n :: ns, rfl, h1.sq, by simp, fun m h1 h2 => ?_⟩
        obtain ⟨k1, k2⟩ := minI_spec (ns := n :: ns) (by simp)
        have : m = minI (n :: ns) := Int.le_antisymm (h2 _ k1) (k2 m h1)
        subst this
        exact q _ _ (.old (.int _))
      · cases e
  | sorted =>
    subst eH
    match ds, e, ra with
    | [.list ys], e, ra =>
      obtain ⟨x, e1, h⟩ := ra.one
      obtain ⟨a, vs, e2, h1, r1⟩ := h.lst
      subst e1 e2
      simp only [biV] at e
      split at e
      · rename_i L hL
        split at e
        · rename_i hz
          cases e
          cases klOf_map r1 hL
          exact cr_sortRow (by omega) pins s σ _ _ us Q I r ⟨false, a, L, rfl, h1.sq, fitsL_ok hz, fun p hp => q _ _ (.lst hp (kl_rp _))⟩
        · cases e
      · cases e
    | [.tuple ys], e, ra =>
      obtain ⟨x, e1, h⟩ := ra.one
      obtain ⟨a, vs, e2, h1, r1⟩ := h.tup
      subst e1 e2
      simp only [biV] at e
      split at e
      · rename_i L hL
        split at e
        · rename_i hz
          cases e
          cases klOf_map r1 hL
          exact cr_sortRow (by omega) pins s σ _ _ us Q I r ⟨true, a, L, rfl, seqT_mono gh h1, fitsL_ok hz, fun p hp => q _ _ (.lst hp (kl_rp _))⟩
        · cases e
      · cases e
  | all =>
    subst eH
    match ds, e, ra with
    | [.list ys], e, ra =>
      obtain ⟨x, e1, h⟩ := ra.one
      obtain ⟨a, vs, e2, h1, r1⟩ := h.lst
      subst e1 e2
      simp only [biV] at e
      split at e
      · rename_i bs hn
        cases e
        cases boolsOf_map r1 hn
        exact cr_all hc pins s σ _ _ us Q I r ⟨a, bs, rfl, h1.sq, q _ _ (.old (.bl _))⟩
      · cases e
  | any =>
    subst eH
    match ds, e, ra with
    | [.list ys], e, ra =>
      obtain ⟨x, e1, h⟩ := ra.one
      obtain ⟨a, vs, e2, h1, r1⟩ := h.lst
      subst e1 e2
      simp only [biV] at e
      split at e
      · rename_i bs hn
        cases e
        cases boolsOf_map r1 hn
        exact cr_any hc pins s σ _ _ us Q I r ⟨a, bs, rfl, h1.sq, q _ _ (.old (.bl _))⟩
      · cases e
  | sum =>
    subst eH
    match ds, e, ra with
    | [.list ys], e, ra =>
      obtain ⟨x, e1, h⟩ := ra.one
      obtain ⟨a, vs, e2, h1, r1⟩ := h.lst
      subst e1 e2
      simp only [biV] at e
      split at e
      · rename_i bs hn
        cases e
        cases intsOf_map r1 hn
        exact cr_sum hc pins s σ _ _ us Q I r ⟨a, bs, rfl, h1.sq, q _ _ (.old (.int _))⟩
      · cases e
/-! ### isinstance -/
def clV : Cl → V
  | .int => .ty "int" | .bool => .ty "bool" | .str => .ty "str" | .tuple => .ty "tuple" | .list => .ty "list" | .dict => .ty "dict"
def clN : Cl → String
  | .int => "int" | .bool => "bool" | .str => "str" | .tuple => "tuple" | .list => "list" | .dict => "dict"
def tyN : D → String
  | .none => "NoneType" | .bool _ => "bool" | .int _ => "int" | .str _ => "str" | .list _ => "list" | .tuple _ => "tuple" | .dict _ => "dict"
theorem clV_eq (c : Cl) : clV c = .ty (clN c) := by cases c <;> rfl
theorem kit_cl (d : D) (c : Cl) : kitB (tyN d) (clN c) = some (isaV d c) := by
  cases d <;> cases c <;> (show _ = some _; simp only [tyN, clN, isaV]; decide +kernel)
theorem tyX_of {K : Frg} {W : Wd} {v : V} {d : D} (gh : Same W.G W.H) (h : Rt K W v d) : TyX K W.H v (.type (tyN d)) := by
  cases d with
  | none => cases h.none; exact .base .non
  | bool b => cases h.bool; exact .base (.bl b)
  | int i => cases h.int; exact .base (.int i)
  | str x => cases h.str; exact .base (.str x)
  | list xs =>
    obtain ⟨a, vs, e1, h1, _⟩ := h.lst
    subst e1
    rcases h1 with (h1 | ⟨o, h1⟩) | ⟨its, n, h1, _⟩
    · exact .base (.lst h1)
    · exact .base (.frz h1)
    · exact .kList h1 rfl
  | tuple xs =>
    obtain ⟨a, vs, e1, h1, _⟩ := h.tup
    subst e1
    rcases h1 with (h1 | ⟨o, h1⟩) | ⟨o, its, n, h1, h2, _⟩
    · exact .base (.tup (gh _ _ h1))
    · exact .fTuple (gh _ _ h1)
    · exact .kTuple h1 h2
  | dict xs =>
    obtain ⟨a, vs, e1, h1, _⟩ := h
    subst e1
    exact .base (.dK h1)
end
end PV
set_option Elab.async false
set_option linter.all false
set_option autoImplicit false
set_option maxRecDepth 100000
set_option maxHeartbeats 1000000
/-! PV: readings by the interpreter; expressions. -/
namespace PV
open PySem PySem.Spec PyProof.Rows L2

/-- an error as it flies -/
def ExOk (g : Gh) (W : Wd) (e : Exn) (cls : Value) (od : Option Addr) : Prop :=
  ∃ C dx fs, cls = .ref C ∧ g.mg e.cls = some (.ref C) ∧ od = some dx ∧ W.G dx = some (.xd fs) ∧ Paired (fun (p : Str × V) (q : Str × D) => p.1 = q.1 ∧ Rp g.K W.G p.2 q.2) fs e.fs
/-- what is wanted behind a reckoning that began in W -/
def Po (g : Gh) (E : WX) (W : Wd) (σ : L2.St) {α : Type} (K : α → Wd → Prop) : Res α → Prop
  | .ok a ρ' => ∀ W', Ext W W' → SO g W' σ ρ' → K a W'
  | .exc e ρ' => ∀ cls od W', Ext W W' → SO g W' σ ρ' → ExOk g W' e cls od → E cls od σ W'.H
  | .stuck => False
def rdE (g : Gh) (E : WX) (m : M Rv) : TE := fun σ H Q => ∃ W ρ, W.H = H ∧ SO g W σ ρ ∧ Po g E W σ (fun r W' => ∀ v, RvOk g W W' σ v r → Q v W'.H) (m ρ)
def rdT (g : Gh) (E : WX) (m : M Bool) : TT := fun σ H Q => ∃ W ρ, W.H = H ∧ SO g W σ ρ ∧ Po g E W σ (fun r W' => Q r W'.H) (m ρ)
def rdL (g : Gh) (E : WX) (m : M (List Rv)) : TA := fun σ H Q => ∃ W ρ, W.H = H ∧ SO g W σ ρ ∧ Po g E W σ (fun rs W' => ∀ vs, RvsOk g W W' σ vs rs → Q vs W'.H) (m ρ)
def rdO (g : Gh) (E : WX) (m : M (Option Int)) : TO := fun σ H Q => ∃ W ρ, W.H = H ∧ SO g W σ ρ ∧ Po g E W σ (fun r W' => Q r W'.H) (m ρ)

section
variable {g : Gh} {E : WX} {W0 W : Wd} {σ : L2.St} {ρ : List Slot} {α : Type}
theorem rd_bind {m : M Rv} {f : Rv → M α} {K : α → Wd → Prop} {Q : VK} (a : Ext W0 W) (so : SO g W σ ρ) (h : Po g E W0 σ K (M.bind m f ρ))
    (k : ∀ r ρ1 W1 v, Ext W0 W1 → Ext W W1 → SO g W1 σ ρ1 → RvOk g W W1 σ v r → Po g E W0 σ K (f r ρ1) → Q v W1.H) : rdE g E m σ W.H Q := by
  refine ⟨W, ρ, rfl, so, ?_⟩
  unfold M.bind at h
  cases q : m ρ with
  | ok r ρ1 => rw [q] at h; exact fun W1 e1 s1 v rv => k r ρ1 W1 v (a.trans e1) e1 s1 rv h
  | exc e ρ1 => rw [q] at h; exact fun cls od W1 e1 s1 x => h cls od W1 (a.trans e1) s1 x
  | stuck => rw [q] at h; exact h
theorem rd_bindT {m : M Bool} {f : Bool → M α} {K : α → Wd → Prop} {Q : Bool → Hp → Prop} (a : Ext W0 W) (so : SO g W σ ρ) (h : Po g E W0 σ K (M.bind m f ρ))
    (k : ∀ r ρ1 W1, Ext W0 W1 → Ext W W1 → SO g W1 σ ρ1 → Po g E W0 σ K (f r ρ1) → Q r W1.H) : rdT g E m σ W.H Q := by
  refine ⟨W, ρ, rfl, so, ?_⟩
  unfold M.bind at h
  cases q : m ρ with
  | ok r ρ1 => rw [q] at h; exact fun W1 e1 s1 => k r ρ1 W1 (a.trans e1) e1 s1 h
  | exc e ρ1 => rw [q] at h; exact fun cls od W1 e1 s1 x => h cls od W1 (a.trans e1) s1 x
  | stuck => rw [q] at h; exact h
theorem rd_bindO {m : M (Option Int)} {f : Option Int → M α} {K : α → Wd → Prop} {Q : Option Int → Hp → Prop} (a : Ext W0 W) (so : SO g W σ ρ) (h : Po g E W0 σ K (M.bind m f ρ))
    (k : ∀ r ρ1 W1, Ext W0 W1 → Ext W W1 → SO g W1 σ ρ1 → Po g E W0 σ K (f r ρ1) → Q r W1.H) : rdO g E m σ W.H Q := by
  refine ⟨W, ρ, rfl, so, ?_⟩
  unfold M.bind at h
  cases q : m ρ with
  | ok r ρ1 => rw [q] at h; exact fun W1 e1 s1 => k r ρ1 W1 (a.trans e1) e1 s1 h
  | exc e ρ1 => rw [q] at h; exact fun cls od W1 e1 s1 x => h cls od W1 (a.trans e1) s1 x
  | stuck => rw [q] at h; exact h
theorem rd_bindL {m : M (List Rv)} {f : List Rv → M α} {K : α → Wd → Prop} {Q : List V → Hp → Prop} (a : Ext W0 W) (so : SO g W σ ρ) (h : Po g E W0 σ K (M.bind m f ρ))
    (k : ∀ rs ρ1 W1 vs, Ext W0 W1 → Ext W W1 → SO g W1 σ ρ1 → RvsOk g W W1 σ vs rs → Po g E W0 σ K (f rs ρ1) → Q vs W1.H) : rdL g E m σ W.H Q := by
  refine ⟨W, ρ, rfl, so, ?_⟩
  unfold M.bind at h
  cases q : m ρ with
  | ok r ρ1 => rw [q] at h; exact fun W1 e1 s1 v rv => k r ρ1 W1 v (a.trans e1) e1 s1 rv h
  | exc e ρ1 => rw [q] at h; exact fun cls od W1 e1 s1 x => h cls od W1 (a.trans e1) s1 x
  | stuck => rw [q] at h; exact h
/-! ### steps without the machine -/
theorem po_peek {r : Rv} {f : D → M α} {K : α → Wd → Prop} (h : Po g E W0 σ K (M.bind (peek r) f ρ)) : ∃ d, cont ρ r = some d ∧ Po g E W0 σ K (f d ρ) := by
  unfold M.bind peek at h
  cases q : cont ρ r with
  | some d => rw [q] at h; exact ⟨d, rfl, h⟩
  | none => rw [q] at h; exact h.elim
theorem po_lift {β : Type} {o : Option β} {f : β → M α} {K : α → Wd → Prop} (h : Po g E W0 σ K (M.bind (lift o) f ρ)) : ∃ b, o = some b ∧ Po g E W0 σ K (f b ρ) := by
  unfold M.bind lift at h
  cases o with
  | some d => exact ⟨d, rfl, h⟩
  | none => exact h.elim
theorem po_lift1 {o : Option α} {K : α → Wd → Prop} (h : Po g E W0 σ K (lift o ρ)) : ∃ b, o = some b ∧ ∀ W', Ext W0 W' → SO g W' σ ρ → K b W' := by
  unfold lift at h
  cases o with
  | some d => exact ⟨d, rfl, h⟩
  | none => exact h.elim
theorem po_pure {a : α} {K : α → Wd → Prop} (h : Po g E W0 σ K (M.pure a ρ)) (e : Ext W0 W) (so : SO g W σ ρ) : K a W := h W e so
theorem po_peeks {rs : List Rv} {f : List D → M α} {K : α → Wd → Prop} (h : Po g E W0 σ K (M.bind (peeks rs) f ρ)) (so : SO g W σ ρ) {W1 : Wd} {vs : List V} (rv : RvsOk g W1 W σ vs rs) : ∃ ds, RtAll g.K W vs ds ∧ Po g E W0 σ K (f ds ρ) := by
  induction rv generalizing f with
  | nil => exact ⟨[], .nil, h⟩
  | @cons v vs r rs h1 _ _ ih =>
    have h : Po g E W0 σ K (M.bind (peek r) (fun d => M.bind (peeks rs) fun ds => f (d :: ds)) ρ) := by
      have e : M.bind (peeks (r :: rs)) f ρ = M.bind (peek r) (fun d => M.bind (peeks rs) fun ds => f (d :: ds)) ρ := by
        simp only [peeks, M.bind, M.pure, peek]
        cases cont ρ r with
        | none => rfl
        | some d => simp only; cases peeks rs ρ <;> rfl
      rw [← e]; exact h
    obtain ⟨d, e1, h⟩ := po_peek h
    obtain ⟨ds, e2, h⟩ := ih h
    exact ⟨d :: ds, .cons (so.cont h1 e1) e2, h⟩
/-- a value stands still from now on -/
theorem po_frz {r : Rv} {f : D → M α} {K : α → Wd → Prop} {v : V} {W1 : Wd} (h : Po g E W0 σ K (M.bind (frz r) f ρ)) (a : Ext W0 W) (a1 : Ext W0 W1) (so : SO g W σ ρ) (rv : RvOk g W1 W σ v r) :
    ∃ d ρ' W', Ext W0 W' ∧ W'.H = W.H ∧ SO g W' σ ρ' ∧ Rp g.K W'.G v d ∧ (∀ p, W.G p = none → ¬ W.O p → (∀ m, r = .fr m → v ≠ .ref p) → W'.G p = none) ∧ Same W.G W'.G ∧ (∀ p, W'.O p → W.O p) ∧ Po g E W0 σ K (f d ρ') := by
  unfold M.bind frz at h
  cases r with
  | val d => exact ⟨d, ρ, W, a, rfl, so, rv, fun _ h _ _ => h, Same.refl _, fun _ h => h, h⟩
  | st t => exact h.elim
  | fr m =>
    obtain ⟨p, e1, h2, h3, h4, h5⟩ := rv
    subst e1
    refine ⟨m.d, ρ, W.frz p, frz_ext a (.inl (none_of_ext a1 h2)) h4, rfl, frz_so so h4 fun i pin m' hi hs => ?_, frz_rp h5 h4, fun q hq _ hne => ?_, frz_same h4, fun q hq => hq.1, h⟩
    · obtain ⟨q, k1, k2, _⟩ := so.slot hi
      rw [hs] at k1
      cases k1
      exact h3 k2
    · show (if q = p then W.H p else W.G q) = none
      rw [if_neg (fun z => hne m rfl (by rw [z]))]
      exact hq
  | bor i =>
    have rv : σ[i]? = some (some v) := rv
    cases q : ρ[i]? with
    | none => simp only [q] at h; exact h.elim
    | some s =>
    cases s with
    | non => simp only [q] at h; exact h.elim
    | st t => simp only [q] at h; exact h.elim
    | val d =>
      simp only [q] at h
      obtain ⟨v', k1, k2⟩ := so.slot q
      rw [rv] at k1
      cases k1
      exact ⟨d, ρ, W, a, rfl, so, k2, fun _ h _ _ => h, Same.refl _, fun _ h => h, h⟩
    | own pin m =>
      cases pin with
      | some k => simp only [q] at h; exact h.elim
      | none =>
      simp only [q] at h
      obtain ⟨p, k1, k2, k3, k4⟩ := so.slot q
      rw [rv] at k1
      cases k1
      have gp := (so.og p k2).1
      have hi : i < ρ.length := (List.getElem?_eq_some_iff.mp q).1
      have so1 : SO g W σ (ρ.set i .non) := by
        refine ⟨so.gh, so.og, so.bt, by simpa using so.len, fun j s hj => ?_, fun j l x y m1 m2 z h1 h2 => ?_⟩
        · by_cases e : i = j
          · subst e
            rw [List.getElem?_set_self hi] at hj
            cases hj
            trivial
          · rw [List.getElem?_set_ne e] at hj
            exact so.slots j s hj
        · have n : ∀ {t : Nat} {x : Option Nat} {m1 : Mv}, (ρ.set i .non)[t]? = some (.own x m1) → ρ[t]? = some (.own x m1) := fun {t x m1} ht => by
            by_cases e : i = t
            · subst e
              rw [List.getElem?_set_self hi] at ht
              cases ht
            · rw [List.getElem?_set_ne e] at ht
              exact ht
          exact so.inj j l x y m1 m2 z (n h1) (n h2)
      have so2 := frz_so so1 gp fun j pin m' hj hs => by
        by_cases e : i = j
        · subst e
          rw [List.getElem?_set_self hi] at hj
          cases hj
        · rw [List.getElem?_set_ne e] at hj
          exact e (so.inj i j _ _ _ _ p q hj rv hs)
      have rp := frz_rp k3 gp
      have own : W0.H p = none ∨ W0.O p := by
        cases z : W0.H p with
        | none => exact .inl rfl
        | some o =>
          rcases a.ow p k2 with y | y
          · exact .inr y
          · rw [y] at z; cases z
      refine ⟨m.d, ρ.set i (.val m.d), W.frz p, frz_ext a own gp, rfl, ?_, rp, fun q hq hno _ => ?_, frz_same gp, fun q hq => hq.1, h⟩
      · refine ⟨so2.gh, so2.og, so2.bt, by simpa using so.len, fun j s hj => ?_, fun j l x y m1 m2 z h1 h2 => ?_⟩
        · by_cases e : i = j
          · subst e
            rw [List.getElem?_set_self hi] at hj
            cases hj
            exact ⟨_, rv, rp⟩
          · rw [List.getElem?_set_ne e] at hj
            exact so2.slots j s (by rw [List.getElem?_set_ne e]; exact hj)
        · have n : ∀ {t : Nat} {x : Option Nat} {m1 : Mv}, (ρ.set i (.val m.d))[t]? = some (.own x m1) → (ρ.set i .non)[t]? = some (.own x m1) := fun {t x m1} ht => by
            by_cases e : i = t
            · subst e
              rw [List.getElem?_set_self hi] at ht
              cases ht
            · rw [List.getElem?_set_ne e] at ht
              rw [List.getElem?_set_ne e]
              exact ht
          exact so2.inj j l x y m1 m2 z (n h1) (n h2)
      · show (if q = p then W.H p else W.G q) = none
        rw [if_neg (fun z => hno (by rw [z]; exact k2))]
        exact hq
end
theorem _root_.L2.PE.weaken {X : Cx} {e : Expr} {t t' : TE} (h : PE X e t) (w : ∀ σ H Q, t' σ H Q → t σ H Q) : PE X e t' := ⟨fun pins s σ H Q I q => h.run pins s σ H Q I (w _ _ _ q)⟩
theorem _root_.L2.PT.weaken {X : Cx} {e : Expr} {t t' : TT} (h : PT X e t) (w : ∀ σ H Q, t' σ H Q → t σ H Q) : PT X e t' := ⟨fun pins s σ H Q I q => h.run pins s σ H Q I (w _ _ _ q)⟩
theorem _root_.L2.PA.weaken {X : Cx} {e : List Expr} {t t' : TA} (h : PA X e t) (w : ∀ σ H Q, t' σ H Q → t σ H Q) : PA X e t' := ⟨fun pos pins s σ H Q I q => h.run pos pins s σ H Q I (w _ _ _ q)⟩
theorem _root_.L2.PO.weaken {X : Cx} {e : Option Expr} {t t' : TO} (h : PO X e t) (w : ∀ σ H Q, t' σ H Q → t σ H Q) : PO X e t' := ⟨fun pins s σ H Q I q => h.run pins s σ H Q I (w _ _ _ q)⟩

/-! ### expressions, form by form -/
section
variable {X : Cx} {g : Gh} {E : WX} {a b c : Expr} {pos : Pos} {ma mb mc : M Rv}
/-- two operands, then an operation on data that hands back a value -/
theorem pe_two (hK : X.K = g.K) {e : Expr} {r : R2} {f : D → D → Option Rv} (hf : ∀ (x y : V) (H : Hp) (Q : VK), Rt2 g.K f x y H Q → r x y H Q) (h : PE X e (tOp r (rdE g E ma) (rdE g E mb))) : PE X e (rdE g E (bin2 ma mb fun x y => lift (f x y))) := by
  refine h.weaken fun σ H Q ⟨W, ρ, eH, so, hp⟩ => ?_
  subst eH
  refine rd_bind (Ext.refl W) so hp fun x ρ1 W1 vx a1 _ s1 rx hp => ?_
  refine rd_bind a1 s1 hp fun y ρ2 W2 vy a2 b2 s2 ry hp => ?_
  obtain ⟨dx, ex, hp⟩ := po_peek hp
  obtain ⟨dy, ey, hp⟩ := po_peek hp
  obtain ⟨z, ez, hp⟩ := po_lift1 hp
  refine hf _ _ _ _ ⟨W2, dx, dy, z, rfl, s2.gh, s2.cont (rx.ext a1 b2) ex, s2.cont ry ey, ez, fun v W' n => ?_⟩
  obtain ⟨k1, k2, k3⟩ := n.ok a2 s2
  exact hp W' k1 k2 v k3
theorem s_bin (hK : X.K = g.K) (o : BO) (ha : PE X a (rdE g E ma)) (hb : PE X b (rdE g E mb)) : PE X (.BinOp a (opB o) b pos) (rdE g E (bin2 ma mb fun x y => lift (binV o x y))) :=
  pe_two hK (fun x y H Q h => by rw [← hK] at h; exact h) (pe_op (op_binV o) ha hb)
theorem s_cst {k : Const} {n : Nat} (hk : (cD k).isSome = true) : PE X (.Constant k n pos) (rdE g E (val1 (cD k))) := by
  have fin : ∀ {v : V} {d : D}, cD k = some d → (∀ G, Rp g.K G v d) → PE X (.Constant k n pos) (tC v) → PE X (.Constant k n pos) (rdE g E (val1 (cD k))) := fun {v d} e hr h => by
    refine h.weaken fun σ H Q ⟨W, ρ, eH, so, hp⟩ => ?_
    subst eH
    obtain ⟨z, ez, hp⟩ := po_lift hp
    rw [e] at ez
    cases ez
    exact hp W (Ext.refl W) so v (hr _)
  cases k with
  | none => exact fin rfl (fun _ => .non) pe_non
  | bool b => exact fin rfl (fun _ => .bl b) pe_bl
  | int b => exact fin rfl (fun _ => .int b) pe_int
  | str b => exact fin rfl (fun _ => .str b) pe_str
  | _ => cases hk
theorem s_var {i : Nat} (h : PE X a (tVar i)) : PE X a (rdE g E fun ρ => match ρ[i]? with
    | some (.val d) => .ok (.val d) ρ
    | some (.own _ _) => .ok (.bor i) ρ
    | some (.st t) => .ok (.st t) ρ
    | _ => .stuck) := by
  refine h.weaken fun σ H Q ⟨W, ρ, eH, so, hp⟩ => ?_
  subst eH
  simp only at hp
  split at hp
  · rename_i d q
    obtain ⟨v, h1, h2⟩ := so.slot q
    exact ⟨v, h1, hp W (Ext.refl W) so v h2⟩
  · rename_i pin m q
    obtain ⟨p, h1, _⟩ := so.slot q
    exact ⟨_, h1, hp W (Ext.refl W) so _ h1⟩
  · rename_i t q
    obtain ⟨v, h1, h2⟩ := so.slot q
    exact ⟨v, h1, hp W (Ext.refl W) so v h2⟩
  · exact hp.elim
theorem s_neg (ha : PE X a (rdE g E ma)) : PE X (.UnaryOp .USub a pos) (rdE g E (M.bind ma fun r => M.bind (peek r) fun d => match d with | .int i => M.pure (.val (.int (-i))) | _ => stuckM)) := by
  refine (pe_un un_neg ha).weaken fun σ H Q ⟨W, ρ, eH, so, hp⟩ => ?_
  subst eH
  refine rd_bind (Ext.refl W) so hp fun x ρ1 W1 vx a1 _ s1 rx hp => ?_
  obtain ⟨dx, ex, hp⟩ := po_peek hp
  have rt := s1.cont rx ex
  cases dx with
  | int i =>
    cases rt.int
    exact ⟨i, rfl, hp W1 a1 s1 _ (.int _)⟩
  | _ => exact hp.elim
theorem s_cmp (hK : X.K = g.K) (hu : X.A.units + 65 < cLine) (o : CO) (ha : PE X a (rdE g E ma)) (hb : PE X b (rdE g E mb)) (hm : behindInMarks (opC o) b = false) : PE X (.Compare a [opC o] [b] pos) (rdE g E (bin2 ma mb fun x y => M.bind (lift (cmpV o x y)) fun k => M.pure (.val (.bool k)))) := by
  refine (pe_cmpR (op_cmpV hu o) ha hb hm).weaken fun σ H Q ⟨W, ρ, eH, so, hp⟩ => ?_
  subst eH
  refine rd_bind (Ext.refl W) so hp fun x ρ1 W1 vx a1 _ s1 rx hp => ?_
  refine rd_bind a1 s1 hp fun y ρ2 W2 vy a2 b2 s2 ry hp => ?_
  obtain ⟨dx, ex, hp⟩ := po_peek hp
  obtain ⟨dy, ey, hp⟩ := po_peek hp
  obtain ⟨z, ez, hp⟩ := po_lift hp
  rw [hK]
  exact ⟨W2, dx, dy, z, rfl, s2.gh, s2.cont (rx.ext a1 b2) ex, s2.cont ry ey, ez, hp W2 a2 s2 _ (.bl _)⟩
theorem s_cmpT (hK : X.K = g.K) (hu : X.A.units + 65 < cLine) (o : CO) (ha : PE X a (rdE g E ma)) (hb : PE X b (rdE g E mb)) (hm : behindInMarks (opC o) b = false) : PT X (.Compare a [opC o] [b] pos) (rdT g E (bin2 ma mb fun x y => lift (cmpV o x y))) := by
  refine (pt_cmpR (op_cmpV hu o) ha hb hm).weaken fun σ H Q ⟨W, ρ, eH, so, hp⟩ => ?_
  subst eH
  unfold tTest tOp
  refine rd_bind (Ext.refl W) so hp fun x ρ1 W1 vx a1 _ s1 rx hp => ?_
  refine rd_bind a1 s1 hp fun y ρ2 W2 vy a2 b2 s2 ry hp => ?_
  obtain ⟨dx, ex, hp⟩ := po_peek hp
  obtain ⟨dy, ey, hp⟩ := po_peek hp
  obtain ⟨z, ez, hp⟩ := po_lift1 hp
  rw [hK]
  exact ⟨W2, dx, dy, z, rfl, s2.gh, s2.cont (rx.ext a1 b2) ex, s2.cont ry ey, ez, z, rfl, hp W2 a2 s2⟩
theorem s_chain (hK : X.K = g.K) (hu : X.A.units + 65 < cLine) (o o' : CO) (ha : PE X a (rdE g E ma)) (hb : PE X b (rdE g E mb)) (hc : PE X c (rdE g E mc)) (hm : lastMarks [opC o, opC o'] [b, c] = false) :
    PE X (.Compare a [opC o, opC o'] [b, c] pos) (rdE g E (M.bind ma fun x => M.bind mb fun y => M.bind (peek x) fun dx => M.bind (peek y) fun dy => M.bind (lift (cmpV o dx dy)) fun k =>
      if k then M.bind mc fun z => M.bind (peek y) fun dy => M.bind (peek z) fun dz => M.bind (lift (cmpV o' dy dz)) fun k => M.pure (.val (.bool k)) else M.pure (.val (.bool false)))) := by
  refine (pe_chain (op_cmpV hu o) (op_cmpV hu o') ha hb hc hm).weaken fun σ H Q ⟨W, ρ, eH, so, hp⟩ => ?_
  subst eH
  refine rd_bind (Ext.refl W) so hp fun x ρ1 W1 vx a1 _ s1 rx hp => ?_
  refine rd_bind a1 s1 hp fun y ρ2 W2 vy a2 b2 s2 ry hp => ?_
  obtain ⟨dx, ex, hp⟩ := po_peek hp
  obtain ⟨dy, ey, hp⟩ := po_peek hp
  obtain ⟨z, ez, hp⟩ := po_lift hp
  rw [hK]
  refine ⟨W2, dx, dy, z, rfl, s2.gh, s2.cont (rx.ext a1 b2) ex, s2.cont ry ey, ez, z, rfl, ?_⟩
  cases z with
  | false => exact hp W2 a2 s2 _ (.bl _)
  | true =>
    rw [if_pos rfl]
    refine rd_bind a2 s2 hp fun u ρ3 W3 vz a3 b3 s3 rz hp => ?_
    obtain ⟨dy', ey', hp⟩ := po_peek hp
    obtain ⟨dz, ez', hp⟩ := po_peek hp
    obtain ⟨w, ew, hp⟩ := po_lift hp
    exact ⟨W3, dy', dz, w, rfl, s3.gh, s3.cont (ry.ext b2 b3) ey', s3.cont rz ez', ew, hp W3 a3 s3 _ (.bl _)⟩
theorem s_chainT (hK : X.K = g.K) (hu : X.A.units + 65 < cLine) (o o' : CO) (ha : PE X a (rdE g E ma)) (hb : PE X b (rdE g E mb)) (hc : PE X c (rdE g E mc)) (hm : lastMarks [opC o, opC o'] [b, c] = false) :
    PT X (.Compare a [opC o, opC o'] [b, c] pos) (rdT g E (M.bind ma fun x => M.bind mb fun y => M.bind (peek x) fun dx => M.bind (peek y) fun dy => M.bind (lift (cmpV o dx dy)) fun k =>
      if k then M.bind mc fun z => M.bind (peek y) fun dy => M.bind (peek z) fun dz => lift (cmpV o' dy dz) else M.pure false)) := by
  refine (pt_chain (op_cmpV hu o) (op_cmpV hu o') ha hb hc hm).weaken fun σ H Q ⟨W, ρ, eH, so, hp⟩ => ?_
  subst eH
  unfold tTest tChain
  refine rd_bind (Ext.refl W) so hp fun x ρ1 W1 vx a1 _ s1 rx hp => ?_
  refine rd_bind a1 s1 hp fun y ρ2 W2 vy a2 b2 s2 ry hp => ?_
  obtain ⟨dx, ex, hp⟩ := po_peek hp
  obtain ⟨dy, ey, hp⟩ := po_peek hp
  obtain ⟨z, ez, hp⟩ := po_lift hp
  rw [hK]
  refine ⟨W2, dx, dy, z, rfl, s2.gh, s2.cont (rx.ext a1 b2) ex, s2.cont ry ey, ez, z, rfl, ?_⟩
  cases z with
  | false => exact ⟨false, rfl, hp W2 a2 s2⟩
  | true =>
    rw [if_pos rfl]
    refine rd_bind a2 s2 hp fun u ρ3 W3 vz a3 b3 s3 rz hp => ?_
    obtain ⟨dy', ey', hp⟩ := po_peek hp
    obtain ⟨dz, ez', hp⟩ := po_peek hp
    obtain ⟨w, ew, hp⟩ := po_lift1 hp
    exact ⟨W3, dy', dz, w, rfl, s3.gh, s3.cont (ry.ext b2 b3) ey', s3.cont rz ez', ew, w, rfl, hp W3 a3 s3⟩
end
end PV
set_option Elab.async false
set_option linter.all false
set_option autoImplicit false
set_option maxRecDepth 100000
set_option maxHeartbeats 1000000
/-! PV: expressions, further forms. -/
namespace PV
open PySem PySem.Spec PyProof.Rows L2
section
variable {g : Gh} {E : WX} {W0 W : Wd} {σ : L2.St} {ρ : List Slot} {α : Type}
/-- the rest of several values, when the first stands still -/
theorem RvsOk.after {vs : List V} {rs : List Rv} {W1 W' : Wd} {v : V} (h : RvsOk g W1 W σ vs rs) (eH : W'.H = W.H) (fz : Same W.G W'.G) (ow : ∀ p, W'.O p → W.O p)
    {r0 : Rv} (gn : ∀ p, W.G p = none → ¬ W.O p → (∀ m, r0 = .fr m → v ≠ .ref p) → W'.G p = none) (n : ∀ m, r0 = .fr m → ∀ (j : Nat) m', rs[j]? = some (.fr m') → vs[j]? ≠ some v) : RvsOk g W1 W' σ vs rs := by
  induction h with
  | nil => exact .nil
  | @cons u us r rs h1 _ h3 ih =>
    refine .cons ?_ (ih fun m hm j m' e => n m hm (j + 1) m' (by simpa using e)) h3
    cases r with
    | val d => exact Rp.mono fz h1
    | bor i => exact h1
    | st t => exact StOk.mono fz h1
    | fr m =>
      obtain ⟨p, e1, k2, k3, k4, k5⟩ := h1
      subst e1
      have hv : ∀ m', r0 = .fr m' → v ≠ .ref p := fun m' hm e => n m' hm 0 m rfl (by rw [e]; rfl)
      refine ⟨p, rfl, k2, fun z => k3 (ow p z), gn p k4 k3 hv, ?_⟩
      cases m with
      | lst xs => obtain ⟨us, l1, l2⟩ := k5; exact ⟨us, by rw [eH]; exact l1, RpAll.mono fz l2⟩
      | dct xs => obtain ⟨us, l1, l2⟩ := k5; exact ⟨us, by rw [eH]; exact l1, RpKV.mono fz l2⟩
theorem po_frzs {rs : List Rv} {f : List D → M α} {K : α → Wd → Prop} {vs : List V} {W1 : Wd} (h : Po g E W0 σ K (M.bind (frzs rs) f ρ)) (a : Ext W0 W) (a1 : Ext W0 W1) (so : SO g W σ ρ) (rv : RvsOk g W1 W σ vs rs) :
    ∃ ds ρ' W', Ext W0 W' ∧ W'.H = W.H ∧ SO g W' σ ρ' ∧ RpAll g.K W'.G vs ds ∧ Same W.G W'.G ∧ (∀ p, W'.O p → W.O p) ∧ Po g E W0 σ K (f ds ρ') := by
  induction rs generalizing f vs W ρ with
  | nil =>
    cases rv
    exact ⟨[], ρ, W, a, rfl, so, .nil, Same.refl _, fun _ h => h, h⟩
  | cons r rs ih =>
    cases rv with
    | cons h1 h2 h3 =>
      rename_i v vs
      have h : Po g E W0 σ K (M.bind (frz r) (fun d => M.bind (frzs rs) fun ds => f (d :: ds)) ρ) := by
        have e : M.bind (frzs (r :: rs)) f ρ = M.bind (frz r) (fun d => M.bind (frzs rs) fun ds => f (d :: ds)) ρ := by
          simp only [frzs, M.bind, M.pure]
          cases frz r ρ with
          | ok d ρ1 => simp only; cases frzs rs ρ1 <;> rfl
          | exc _ _ => rfl
          | stuck => rfl
        rw [← e]; exact h
      obtain ⟨d, ρ1, W2, a2, eH, s2, rp, gn, fz, ow, h⟩ := po_frz h a a1 so h1
      have rest : RvsOk g W1 W2 σ vs rs := h2.after eH fz ow gn h3
      obtain ⟨ds, ρ', W', k1, k2, k3, k4, k5, k6, k7⟩ := ih h a2 s2 rest
      exact ⟨d :: ds, ρ', W', k1, k2.trans eH, k3, .cons (Rp.mono k5 rp) k4, fz.trans k5, fun p z => ow p (k6 p z), k7⟩
end
section
variable {X : Cx} {g : Gh} {E : WX} {a b c : Expr} {rest : List Expr} {pos : Pos} {ma mb mc : M Rv} {mt : M Bool} {ms : M (List Rv)} {es : List Expr}
theorem s_notv (hK : X.K = g.K) (ha : PE X a (rdE g E ma)) : PE X (.UnaryOp .Not a pos) (rdE g E (M.bind ma fun r => M.bind (peek r) fun d => M.bind (lift (truV d)) fun k => M.pure (.val (.bool (!k))))) := by
  refine (pe_notT ha).weaken fun σ H Q ⟨W, ρ, eH, so, hp⟩ => ?_
  subst eH
  refine rd_bind (Ext.refl W) so hp fun x ρ1 W1 vx a1 _ s1 rx hp => ?_
  obtain ⟨dx, ex, hp⟩ := po_peek hp
  obtain ⟨k, ek, hp⟩ := po_lift hp
  exact ⟨k, by rw [hK]; exact truV_ok s1.gh (s1.cont rx ex) ek, hp W1 a1 s1 _ (.bl _)⟩
theorem s_andv (hK : X.K = g.K) (ha : PE X a (rdE g E ma)) (hb : PE X (.BoolOp .And (b :: rest) pos) (rdE g E mb)) : PE X (.BoolOp .And (a :: b :: rest) pos) (rdE g E (M.bind ma fun r => M.bind (peek r) fun d => M.bind (lift (truV d)) fun k => if k then mb else M.pure r)) := by
  refine (pe_andT ha hb).weaken fun σ H Q ⟨W, ρ, eH, so, hp⟩ => ?_
  subst eH
  refine rd_bind (Ext.refl W) so hp fun x ρ1 W1 vx a1 _ s1 rx hp => ?_
  obtain ⟨dx, ex, hp⟩ := po_peek hp
  obtain ⟨k, ek, hp⟩ := po_lift hp
  refine ⟨k, by rw [hK]; exact truV_ok s1.gh (s1.cont rx ex) ek, ?_⟩
  cases k with
  | false => exact hp W1 a1 s1 _ rx
  | true =>
    rw [if_pos rfl]
    refine ⟨W1, ρ1, rfl, s1, ?_⟩
    have hp : Po g E W σ (fun r W' => ∀ v, RvOk g W W' σ v r → Q v W'.H) (mb ρ1) := hp
    revert hp
    cases mb ρ1 with
    | ok r ρ2 => exact fun hp W2 a2 s2 v rv => hp W2 (a1.trans a2) s2 v (rv.back a1)
    | exc e ρ2 => exact fun hp cls od W2 a2 s2 x => hp cls od W2 (a1.trans a2) s2 x
    | stuck => exact fun hp => hp
theorem s_orv (hK : X.K = g.K) (ha : PE X a (rdE g E ma)) (hb : PE X (.BoolOp .Or (b :: rest) pos) (rdE g E mb)) : PE X (.BoolOp .Or (a :: b :: rest) pos) (rdE g E (M.bind ma fun r => M.bind (peek r) fun d => M.bind (lift (truV d)) fun k => if k then M.pure r else mb)) := by
  refine (pe_orT ha hb).weaken fun σ H Q ⟨W, ρ, eH, so, hp⟩ => ?_
  subst eH
  refine rd_bind (Ext.refl W) so hp fun x ρ1 W1 vx a1 _ s1 rx hp => ?_
  obtain ⟨dx, ex, hp⟩ := po_peek hp
  obtain ⟨k, ek, hp⟩ := po_lift hp
  refine ⟨k, by rw [hK]; exact truV_ok s1.gh (s1.cont rx ex) ek, ?_⟩
  cases k with
  | true => exact hp W1 a1 s1 _ rx
  | false =>
    rw [if_neg (by decide)]
    refine ⟨W1, ρ1, rfl, s1, ?_⟩
    have hp : Po g E W σ (fun r W' => ∀ v, RvOk g W W' σ v r → Q v W'.H) (mb ρ1) := hp
    revert hp
    cases mb ρ1 with
    | ok r ρ2 => exact fun hp W2 a2 s2 v rv => hp W2 (a1.trans a2) s2 v (rv.back a1)
    | exc e ρ2 => exact fun hp cls od W2 a2 s2 x => hp cls od W2 (a1.trans a2) s2 x
    | stuck => exact fun hp => hp
/-- going on from a later world -/
theorem rd_go {W W1 : Wd} {σ : L2.St} {ρ1 : List Slot} {Q : VK} (a1 : Ext W W1) (s1 : SO g W1 σ ρ1) (hp : Po g E W σ (fun r W' => ∀ v, RvOk g W W' σ v r → Q v W'.H) (ma ρ1)) : rdE g E ma σ W1.H Q := by
  refine ⟨W1, ρ1, rfl, s1, ?_⟩
  revert hp
  cases ma ρ1 with
  | ok r ρ2 => exact fun hp W2 a2 s2 v rv => hp W2 (a1.trans a2) s2 v (rv.back a1)
  | exc e ρ2 => exact fun hp cls od W2 a2 s2 x => hp cls od W2 (a1.trans a2) s2 x
  | stuck => exact fun hp => hp
theorem rd_goT {W W1 : Wd} {σ : L2.St} {ρ1 : List Slot} {Q : Bool → Hp → Prop} (a1 : Ext W W1) (s1 : SO g W1 σ ρ1) (hp : Po g E W σ (fun r W' => Q r W'.H) (mt ρ1)) : rdT g E mt σ W1.H Q := by
  refine ⟨W1, ρ1, rfl, s1, ?_⟩
  revert hp
  cases mt ρ1 with
  | ok r ρ2 => exact fun hp W2 a2 s2 => hp W2 (a1.trans a2) s2
  | exc e ρ2 => exact fun hp cls od W2 a2 s2 x => hp cls od W2 (a1.trans a2) s2 x
  | stuck => exact fun hp => hp
theorem s_ife (ht : PT X c (rdT g E mt)) (ha : PE X a (rdE g E ma)) (hb : PE X b (rdE g E mb)) : PE X (.IfExp c a b pos) (rdE g E (M.bind mt fun k => if k then ma else mb)) := by
  refine (pe_ifExp ht ha hb).weaken fun σ H Q ⟨W, ρ, eH, so, hp⟩ => ?_
  subst eH
  refine rd_bindT (Ext.refl W) so hp fun k ρ1 W1 a1 _ s1 hp => ?_
  cases k with
  | true => rw [if_pos rfl]; exact rd_go a1 s1 hp
  | false => rw [if_neg (by decide)]; exact rd_go a1 s1 hp
/-! ### lists of expressions -/
theorem s_nil : PA X [] (rdL g E (M.pure [])) := pa_nil.weaken fun σ H Q ⟨W, ρ, eH, so, hp⟩ => by
  subst eH
  exact hp W (Ext.refl W) so [] .nil
theorem s_cons (ha : PE X a (rdE g E ma)) (hr : PA X es (rdL g E ms)) (hs : starEach (a :: es) X.env = (false, eval a X.env) :: starEach es X.env) : PA X (a :: es) (rdL g E (M.bind ma fun r => M.bind ms fun rs => M.pure (r :: rs))) := by
  refine (pa_cons ha hr hs).weaken fun σ H Q ⟨W, ρ, eH, so, hp⟩ => ?_
  subst eH
  refine rd_bind (Ext.refl W) so hp fun x ρ1 W1 vx a1 _ s1 rx hp => ?_
  refine rd_bindL a1 s1 hp fun rs ρ2 W2 vs a2 b2 s2 rvs hp => ?_
  exact hp W2 a2 s2 _ (RvsOk.push rx a1 b2 rvs)
theorem rvs_vals {W W0 : Wd} {σ : L2.St} {ws : List V} {rs : List Rv} (h : RvsOk g W0 W σ ws rs) : ∀ {vs : List V} {ds : List PyData}, RpAll g.K W.G vs ds → RvsOk g W0 W σ (vs ++ ws) (ds.map Rv.val ++ rs)
  | _, _, .nil => h
  | _, _, .cons a r => .cons a (rvs_vals h r) fun m z => by cases z
theorem s_star {p : Pos} (hK : X.K = g.K) (ha : PE X a (rdE g E ma)) (hr : PA X es (rdL g E ms)) (hs : starEach (.Starred a p :: es) X.env = (true, eval a X.env) :: starEach es X.env) :
    PA X (.Starred a p :: es) (rdL g E (M.bind ma fun r => M.bind (peek r) fun d => M.bind (lift (seqD d)) fun q => M.bind ms fun rs => M.pure (q.2.map Rv.val ++ rs))) := by
  refine (StX.pa_star ha hr hs).weaken fun σ H Q ⟨W, ρ, eH, so, hp⟩ => ?_
  subst eH
  unfold StX.tStar
  refine rd_bind (Ext.refl W) so hp fun x ρ1 W1 vx a1 _ s1 rx hp => ?_
  obtain ⟨d, ed, hp⟩ := po_peek hp
  obtain ⟨q, eq, hp⟩ := po_lift hp
  have rt := s1.cont rx ed
  have key : ∃ b vs, vx = .ref b ∧ (SqT X.K W1.H b vs ∨ SqL X.K W1.H b vs) ∧ RpAll g.K W1.G vs q.2 := by
    rw [hK]
    cases d with
    | list ds =>
      cases eq
      obtain ⟨b, vs, h1, h2, h3⟩ := rt.lst
      exact ⟨b, vs, h1, .inr h2.sq, h3⟩
    | tuple ds =>
      cases eq
      obtain ⟨b, vs, h1, h2, h3⟩ := rt.tup
      exact ⟨b, vs, h1, .inl (seqT_mono s1.gh h2), h3⟩
    | _ => cases eq
  obtain ⟨b, vs, e1, e2, e3⟩ := key
  refine ⟨b, vs, e1, e2, ?_⟩
  refine rd_bindL a1 s1 hp fun rs ρ2 W2 ws a2 b2 s2 rvs hp => ?_
  exact hp W2 a2 s2 _ (rvs_vals (rvs.back a1) (RpAll.mono b2.fz e3))
theorem s_tup {k : Nat} (h : PA X es (rdL g E ms)) : PE X (.Tuple es k pos) (rdE g E (M.bind ms fun rs => M.bind (frzs rs) fun ds => if fitsL ds.length then M.pure (.val (.tuple ds)) else stuckM)) := by
  refine (pe_tup h).weaken fun σ H Q ⟨W, ρ, eH, so, hp⟩ => ?_
  subst eH
  refine rd_bindL (Ext.refl W) so hp fun rs ρ1 W1 vs a1 _ s1 rvs hp => ?_
  obtain ⟨ds, ρ2, W2, a2, eH, s2, rp, _, _, hp⟩ := po_frzs hp a1 (Ext.refl W) s1 rvs
  split at hp
  · rename_i hz
    rw [← eH]
    refine ⟨by rw [rp.length]; exact fitsL_ok hz, fun p np => ?_⟩
    obtain ⟨k1, k2, k3⟩ := (New.tup np rp).ok a2 s2
    exact hp _ k1 k2 _ k3
  · exact hp.elim
theorem s_lst (h : PA X es (rdL g E ms)) : PE X (.List es pos) (rdE g E (M.bind ms fun rs => M.bind (frzs rs) fun ds => if fitsL ds.length then M.pure (.fr (.lst ds)) else stuckM)) := by
  refine (pe_lst h).weaken fun σ H Q ⟨W, ρ, eH, so, hp⟩ => ?_
  subst eH
  refine rd_bindL (Ext.refl W) so hp fun rs ρ1 W1 vs a1 _ s1 rvs hp => ?_
  obtain ⟨ds, ρ2, W2, a2, eH, s2, rp, _, _, hp⟩ := po_frzs hp a1 (Ext.refl W) s1 rvs
  split at hp
  · rename_i hz
    rw [← eH]
    refine ⟨by rw [rp.length]; exact fitsL_ok hz, fun p np => ?_⟩
    obtain ⟨k1, k2, k3⟩ := (New.lst np rp).ok a2 s2
    exact hp _ k1 k2 _ k3
  · exact hp.elim
theorem s_rep (h : PA X es (rdL g E ms)) (ha : PE X a (rdE g E ma)) {p1 : Pos} : PE X (.BinOp (.List es p1) .Mult a pos) (rdE g E (M.bind ms fun rs => M.bind (frzs rs) fun ds => if fitsL ds.length then M.bind ma fun r => M.bind (peek r) fun d => repM ds d else stuckM)) := by
  refine (pe_op op_rep (pe_lst h) ha).weaken fun σ H Q ⟨W, ρ, eH, so, hp⟩ => ?_
  subst eH
  unfold tOp tLst
  refine rd_bindL (Ext.refl W) so hp fun rs ρ1 W1 vs a1 _ s1 rvs hp => ?_
  obtain ⟨ds, ρ2, W2, a2, eH, s2, rp, _, _, hp⟩ := po_frzs hp a1 (Ext.refl W) s1 rvs
  rw [← eH]
  split at hp
  · rename_i hz
    refine ⟨by rw [rp.length]; exact fitsL_ok hz, fun p np => ?_⟩
    obtain ⟨k1, k2, k3⟩ := (New.lst np rp).ok a2 s2
    refine rd_bind k1 k2 hp fun x ρ3 W3 vx a3 b3 s3 rx hp => ?_
    obtain ⟨d, ed, hp⟩ := po_peek hp
    have rt := s3.cont rx ed
    cases d with
    | int k =>
      cases rt.int
      have hp : Po g E W σ (fun r W' => ∀ v, RvOk g W W' σ v r → Q v W'.H) ((if decide (-(2 ^ 63) ≤ k) && decide (k < 2 ^ 63) && fitsL (ds.length * k.toNat) then M.pure (.fr (.lst (List.replicate k.toNat ds).flatten)) else stuckM) ρ3) := hp
      split at hp
      · rename_i hy
        simp only [Bool.and_eq_true, decide_eq_true_eq] at hy
        obtain ⟨⟨y1, y2⟩, y3⟩ := hy
        obtain ⟨q, e1, q2, q3, q4, us, q5, q6⟩ := k3.ext k1 b3
        cases e1
        refine ⟨p, k, us, rfl, rfl, q5, y1, y2, by rw [q6.length]; exact fitsL_ok y3, fun l hl => ?_⟩
        obtain ⟨l1, l2, l3⟩ := (New.lst hl (q6.rep k.toNat)).ok a3 s3
        exact hp _ l1 l2 _ l3
      · exact hp.elim
    | _ => exact hp.elim
  · exact hp.elim
/-! ### subscripts, slices -/
def plainIx : Expr → Bool
  | .Slice .. => false
  | _ => true
theorem plainIx_ok {e : Expr} (h : plainIx e = true) : PlainIx e := by
  intro o i
  cases e <;> first | rfl | cases h
theorem s_idx (hK : X.K = g.K) (hu : X.A.units + 1 < cLine) (ha : PE X a (rdE g E ma)) (hb : PE X b (rdE g E mb)) (hs : plainIx b = true) : PE X (.Subscript a b pos) (rdE g E (bin2 ma mb fun x y => val1 (idxV x y))) := by
  refine (pe_ix (ix_V hu) ha hb (plainIx_ok hs)).weaken fun σ H Q ⟨W, ρ, eH, so, hp⟩ => ?_
  subst eH
  refine rd_bind (Ext.refl W) so hp fun x ρ1 W1 vx a1 _ s1 rx hp => ?_
  refine rd_bind a1 s1 hp fun y ρ2 W2 vy a2 b2 s2 ry hp => ?_
  obtain ⟨dx, ex, hp⟩ := po_peek hp
  obtain ⟨dy, ey, hp⟩ := po_peek hp
  obtain ⟨z, ez, hp⟩ := po_lift hp
  rw [hK]
  exact ⟨W2, dx, dy, z, rfl, s2.gh, s2.cont (rx.ext a1 b2) ex, s2.cont ry ey, ez, fun v hv => hp W2 a2 s2 v hv⟩
theorem s_no : PO X none (rdO g E (M.pure none)) := po_none.weaken fun σ H Q ⟨W, ρ, eH, so, hp⟩ => by
  subst eH
  exact hp W (Ext.refl W) so
theorem s_yes (ha : PE X a (rdE g E ma)) : PO X (some a) (rdO g E (M.bind ma fun r => M.bind (peek r) fun d => match d with | .int i => M.pure (some i) | _ => stuckM)) := by
  refine (po_some ha).weaken fun σ H Q ⟨W, ρ, eH, so, hp⟩ => ?_
  subst eH
  refine rd_bind (Ext.refl W) so hp fun x ρ1 W1 vx a1 _ s1 rx hp => ?_
  obtain ⟨dx, ex, hp⟩ := po_peek hp
  have rt := s1.cont rx ex
  cases dx with
  | int i => cases rt.int; exact ⟨i, rfl, hp W1 a1 s1⟩
  | _ => exact hp.elim
theorem s_slc (hK : X.K = g.K) {lo hi : Option Expr} {ml mh : M (Option Int)} {p2 : Pos} (ha : PE X a (rdE g E ma)) (hl : PO X lo (rdO g E ml)) (hh : PO X hi (rdO g E mh)) :
    PE X (.Subscript a (.Slice lo hi none p2) pos) (rdE g E (M.bind ma fun x => M.bind ml fun l => M.bind mh fun h => M.bind (peek x) fun d => lift (slcV d l h))) := by
  refine (pe_slice sl_V ha hl hh).weaken fun σ H Q ⟨W, ρ, eH, so, hp⟩ => ?_
  subst eH
  refine rd_bind (Ext.refl W) so hp fun x ρ1 W1 vx a1 _ s1 rx hp => ?_
  refine rd_bindO a1 s1 hp fun l ρ2 W2 a2 b2 s2 hp => ?_
  refine rd_bindO a2 s2 hp fun h ρ3 W3 a3 b3 s3 hp => ?_
  obtain ⟨dx, ex, hp⟩ := po_peek hp
  obtain ⟨z, ez, hp⟩ := po_lift1 hp
  rw [hK]
  refine ⟨W3, dx, z, rfl, s3.gh, s3.cont (rx.ext a1 (b2.trans b3)) ex, ez, fun v W' n => ?_⟩
  obtain ⟨k1, k2, k3⟩ := n.ok a3 s3
  exact hp W' k1 k2 v k3
theorem s_stp (hK : X.K = g.K) {lo hi : Option Expr} {sx : Expr} {ml mh mst : M (Option Int)} {p2 : Pos} (ha : PE X a (rdE g E ma)) (hl : PO X lo (rdO g E ml)) (hh : PO X hi (rdO g E mh)) (hst : PO X (some sx) (rdO g E mst)) :
    PE X (.Subscript a (.Slice lo hi (some sx) p2) pos) (rdE g E (M.bind ma fun x => M.bind ml fun l => M.bind mh fun h => M.bind mst fun t => M.bind (peek x) fun d => lift (stpV d l h t))) := by
  refine (pe_step ha hl hh hst).weaken fun σ H Q ⟨W, ρ, eH, so, hp⟩ => ?_
  subst eH
  refine rd_bind (Ext.refl W) so hp fun x ρ1 W1 vx a1 _ s1 rx hp => ?_
  refine rd_bindO a1 s1 hp fun l ρ2 W2 a2 b2 s2 hp => ?_
  refine rd_bindO a2 s2 hp fun h ρ3 W3 a3 b3 s3 hp => ?_
  refine rd_bindO a3 s3 hp fun t ρ4 W4 a4 b4 s4 hp => ?_
  obtain ⟨dx, ex, hp⟩ := po_peek hp
  obtain ⟨z, ez, hp⟩ := po_lift1 hp
  have rt := s4.cont (rx.ext a1 (b2.trans (b3.trans b4))) ex
  rw [hK]
  cases t with
  | none => cases dx <;> cases ez
  | some st =>
    cases dx with
    | list xs =>
      obtain ⟨p, vs, e1, h1, r1⟩ := rt.lst
      simp only [stpV] at ez
      split at ez
      · rename_i hz
        simp only [Bool.and_eq_true, decide_eq_true_eq] at hz
        cases ez
        refine ⟨st, rfl, hz.1, hz.2, p, vs, e1, .inl ⟨h1.sq, fun q hq => ?_⟩⟩
        obtain ⟨k1, k2, k3⟩ := (New.lst hq (stepX_rp r1 l h st)).ok a4 s4
        exact hp _ k1 k2 _ k3
      · cases ez
    | tuple xs =>
      obtain ⟨p, vs, e1, h1, r1⟩ := rt.tup
      simp only [stpV] at ez
      split at ez
      · rename_i hz
        simp only [Bool.and_eq_true, decide_eq_true_eq] at hz
        cases ez
        refine ⟨st, rfl, hz.1, hz.2, p, vs, e1, .inr ⟨seqT_mono s4.gh h1, fun q hq => ?_⟩⟩
        obtain ⟨k1, k2, k3⟩ := (New.tup hq (stepX_rp r1 l h st)).ok a4 s4
        exact hp _ k1 k2 _ k3
      · cases ez
    | _ => cases ez
theorem row_seq {W : Wd} {v : V} {d : D} {tp : Bool} {xs : List D} (gh : Same W.G W.H) (r : Rt g.K W v d) (h : seqD d = some (tp, xs)) : ∃ a vs, v = .ref a ∧ Sqb tp g.K W.H a vs ∧ RpAll g.K W.G vs xs := by
  cases d with
  | list ys => cases h; obtain ⟨a, vs, e, h1, h2⟩ := r.lst; exact ⟨a, vs, e, h1.sq, h2⟩
  | tuple ys => cases h; obtain ⟨a, vs, e, h1, h2⟩ := r.tup; exact ⟨a, vs, e, seqT_mono gh h1, h2⟩
  | _ => cases h
theorem dst_len (L : Kl) : (dsetK L.ks).length = L.dst.len := by rw [dset_dst, ks_len]
theorem s_sset (hK : X.K = g.K) (hc : X.calm = true) (hu : X.A.units + 2 < cLine) {p p2 pos2 : Pos} (g1 : Gl X "sorted") (m1 : X.mg "sorted" = none) (g2 : Gl X "set") (m2 : X.mg "set" = none) (ha : PE X a (rdE g E ma)) (hs : starEach [a] X.env = [(false, eval a X.env)]) :
    PE X (.Call (.Name "sorted" p) [.Call (.Name "set" p2) [a] [] pos2] [] pos) (rdE g E (M.bind ma fun x => M.bind (peek x) fun d => lift (ssetV d))) := by
  refine (pe_callB (cr_sortW hc hu) g1 m1 (by decide +kernel) (pa_cons (pe_callTy (cr_setRow hc) g2 m2 (by decide +kernel) (pa_cons ha pa_nil hs) (by decide) (by decide +kernel) hs) pa_nil) (by decide) (by decide +kernel)).weaken fun σ H Q ⟨W, ρ, eH, so, hp⟩ => ?_
  subst eH
  unfold tCB tCons
  refine rd_bind (Ext.refl W) so hp fun x ρ1 W1 vx a1 _ s1 rx hp => ?_
  obtain ⟨dx, ex, hp⟩ := po_peek hp
  obtain ⟨z, ez, hp⟩ := po_lift1 hp
  have rt := s1.cont rx ex
  unfold ssetV at ez
  cases h1 : seqD dx with
  | none => simp only [h1] at ez; cases ez
  | some q =>
    simp only [h1] at ez
    cases h2 : klOf q.2 with
    | none => simp only [h2] at ez; cases ez
    | some L =>
      simp only [h2] at ez
      split at ez
      · rename_i hz
        cases ez
        obtain ⟨tp, xs⟩ := q
        obtain ⟨p0, vs, e1, q1, q2⟩ := row_seq s1.gh rt h1
        cases klOf_map q2 h2
        have room : L.len + 1 < scanBound := by have := of_decide_eq_true hz; have : scanBound = 4096 := rfl; omega
        rw [hK]
        refine ⟨tp, p0, L, by rw [e1], q1, room, fun q hq => ?_⟩
        obtain ⟨k1, k2⟩ := so_upd (o := SetW X.prog X.w q (dsetK L.ks)) (fz := false) s1 hq
        refine ⟨q, L.dst, rfl, by rw [← dset_dst]; exact upd_same, fun r hr => ?_⟩
        obtain ⟨n1, n2, n3⟩ := (New.lst (W := W1.add q (SetW X.prog X.w q (dsetK L.ks)) false) hr (kl_rp (K := g.K) L.dst.srt)).ok (a1.trans k2) k1
        exact hp _ n1 n2 _ n3
      · cases ez
theorem s_lset (hK : X.K = g.K) (hc : X.calm = true) {p p2 pos2 : Pos} (g1 : Gl X "len") (m1 : X.mg "len" = none) (g2 : Gl X "set") (m2 : X.mg "set" = none) (ha : PE X a (rdE g E ma)) (hs : starEach [a] X.env = [(false, eval a X.env)]) :
    PE X (.Call (.Name "len" p) [.Call (.Name "set" p2) [a] [] pos2] [] pos) (rdE g E (M.bind ma fun x => M.bind (peek x) fun d => lift (lsetV d))) := by
  refine (pe_callB cr_lenW g1 m1 (by decide +kernel) (pa_cons (pe_callTy (cr_setRow hc) g2 m2 (by decide +kernel) (pa_cons ha pa_nil hs) (by decide) (by decide +kernel) hs) pa_nil) (by decide) (by decide +kernel)).weaken fun σ H Q ⟨W, ρ, eH, so, hp⟩ => ?_
  subst eH
  unfold tCB tCons
  refine rd_bind (Ext.refl W) so hp fun x ρ1 W1 vx a1 _ s1 rx hp => ?_
  obtain ⟨dx, ex, hp⟩ := po_peek hp
  obtain ⟨z, ez, hp⟩ := po_lift1 hp
  have rt := s1.cont rx ex
  unfold lsetV at ez
  cases h1 : seqD dx with
  | none => simp only [h1] at ez; cases ez
  | some q =>
    simp only [h1] at ez
    cases h2 : klOf q.2 with
    | none => simp only [h2] at ez; cases ez
    | some L =>
      simp only [h2] at ez
      split at ez
      · rename_i hz
        cases ez
        obtain ⟨tp, xs⟩ := q
        obtain ⟨p0, vs, e1, q1, q2⟩ := row_seq s1.gh rt h1
        cases klOf_map q2 h2
        have room : L.len + 1 < scanBound := by have := of_decide_eq_true hz; have : scanBound = 4096 := rfl; omega
        rw [hK]
        refine ⟨tp, p0, L, by rw [e1], q1, room, fun q hq => ?_⟩
        obtain ⟨k1, k2⟩ := so_upd (o := SetW X.prog X.w q (dsetK L.ks)) (fz := false) s1 hq
        refine ⟨q, dsetK L.ks, rfl, upd_same, ?_⟩
        rw [dst_len]
        exact hp _ (a1.trans k2) k1 _ (Rp.int _)
      · cases ez
theorem s_revl (hK : X.K = g.K) {k : Nat} {p1 p2 p3 : Pos} (ha : PE X a (rdE g E ma)) :
    PE X (.Subscript a (.Slice none none (some (.UnaryOp .USub (.Constant (.int 1) k p1) p2)) p3) pos) (rdE g E (M.bind ma fun x => M.bind (peek x) fun d => match d with | .list xs => M.pure (.fr (.lst xs.reverse)) | _ => stuckM)) := by
  refine (pe_revL ha).weaken fun σ H Q ⟨W, ρ, eH, so, hp⟩ => ?_
  subst eH
  refine rd_bind (Ext.refl W) so hp fun x ρ1 W1 vx a1 _ s1 rx hp => ?_
  obtain ⟨dx, ex, hp⟩ := po_peek hp
  have rt := s1.cont rx ex
  cases dx with
  | list xs =>
    obtain ⟨p, vs, e1, h1, r1⟩ := rt.lst
    subst e1
    rw [hK]
    refine ⟨p, vs, rfl, h1.sq, fun l hl => ?_⟩
    obtain ⟨k1, k2, k3⟩ := (New.lst hl r1.reverse).ok a1 s1
    exact hp _ k1 k2 _ k3
  | _ => exact hp.elim
/-! ### built-ins -/
theorem boot_bi (b : BI) : bootBuiltins (biN b) = some (biF b) := by cases b <;> decide +kernel
theorem biN_ok (b : BI) : biN b ≠ "__name__" ∧ (biN b == ("__debug__" : Str)) = false := by cases b <;> decide +kernel
theorem s_bi (hK : X.K = g.K) (hc : X.calm = true) (hgd : X.A.guards = some []) (hu : X.A.units + 66 < cLine) (bb : BI) {p : Pos} (hg : Gl X (biN bb)) (hm : X.mg (biN bb) = none) (ha : PA X (a :: es) (rdL g E ms))
    (he : starEach (a :: es) X.env = (false, eval a X.env) :: starEach es X.env) (hpl : (backTo pos (starEach es X.env)).any (·.1) = false) :
    PE X (.Call (.Name (biN bb) p) (a :: es) [] pos) (rdE g E (M.bind ms fun rs => M.bind (peeks rs) fun ds => lift (biV bb ds))) := by
  have body : ∀ σ H Q, rdE g E (M.bind ms fun rs => M.bind (peeks rs) fun ds => lift (biV bb ds)) σ H Q → tCB (Rts X.K (biV bb)) (rdL g E ms) σ H Q := fun σ H Q ⟨W, ρ, eH, so, hp⟩ => by
    subst eH
    refine rd_bindL (Ext.refl W) so hp fun rs ρ1 W1 vs a1 _ s1 rvs hp => ?_
    obtain ⟨ds, rt, hp⟩ := po_peeks hp s1 rvs
    obtain ⟨z, ez, hp⟩ := po_lift1 hp
    rw [hK]
    refine ⟨W1, ds, z, rfl, s1.gh, rt, ez, fun v W' n => ?_⟩
    obtain ⟨k1, k2, k3⟩ := n.ok a1 s1
    exact hp W' k1 k2 v k3
  have c := call_biV hc hgd hu bb
  have bt := boot_bi bb
  have nm := biN_ok bb
  have key : (∃ id, biF bb = .builtin id) ∨ ∃ T, biF bb = .type T := by cases bb <;> first | exact .inl ⟨_, rfl⟩ | exact .inr ⟨_, rfl⟩
  rcases key with ⟨id, e⟩ | ⟨T, e⟩
  · rw [e] at c bt
    exact (pe_callB c hg hm bt ha nm.1 nm.2 he hpl).weaken body
  · rw [e] at c bt
    exact (pe_callTy c hg hm bt ha nm.1 nm.2 he hpl).weaken body
end
end PV
set_option Elab.async false
set_option linter.all false
set_option autoImplicit false
set_option maxRecDepth 100000
set_option maxHeartbeats 1000000
/-! PV: isinstance, methods, tuple(range). -/
namespace PV
open PySem PySem.Spec PyProof.Rows L2
def clS : Cl → Str
  | .int => "int" | .bool => "bool" | .str => "str" | .tuple => "tuple" | .list => "list" | .dict => "dict"
theorem boot_cl (c : Cl) : bootBuiltins (clS c) = some (.type (clN c)) := by cases c <;> decide +kernel
theorem clS_ok (c : Cl) : clS c ≠ "__name__" ∧ (clS c == ("__debug__" : Str)) = false := by cases c <;> decide +kernel
section
variable {X : Cx} {g : Gh} {E : WX} {a b c : Expr} {rest : List Expr} {pos p p' pt : Pos} {ma mb mc : M Rv} {mt : M Bool} {ms : M (List Rv)} {es : List Expr}
theorem pe_cl (c : Cl) (hg : Gl X (clS c)) (hm : X.mg (clS c) = none) : PE X (.Name (clS c) p) (tC (.ty (clN c))) :=
  pe_bltn hg hm (boot_cl c) rfl (clS_ok c).1 (clS_ok c).2
theorem s_isa (hK : X.K = g.K) (cl : Cl) (hi : Gl X "isinstance") (hmi : X.mg "isinstance" = none) (hg : Gl X (clS cl)) (hm : X.mg (clS cl) = none) (ha : PE X a (rdE g E ma)) (hs : starEach (a :: [.Name (clS cl) p']) X.env = (false, eval a X.env) :: starEach [.Name (clS cl) p'] X.env) :
    PE X (.Call (.Name "isinstance" p) [a, .Name (clS cl) p'] [] pos) (rdE g E (M.bind ma fun r => M.bind (peek r) fun d => M.pure (.val (.bool (isaV d cl))))) := by
  refine (pe_callB call_isi hi hmi (by decide +kernel) (pa_cons ha (pa_cons (pe_cl cl hg hm) pa_nil) hs) (by decide) (by decide) hs).weaken fun σ H Q ⟨W, ρ, eH, so, hp⟩ => ?_
  subst eH
  refine rd_bind (Ext.refl W) so hp fun x ρ1 W1 vx a1 _ s1 rx hp => ?_
  obtain ⟨dx, ex, hp⟩ := po_peek hp
  have rt := s1.cont rx ex
  rw [hK]
  exact ⟨vx, .ty (clN cl), _, _, _, rfl, .ty _, tyX_of s1.gh rt, kit_ty (kit_cl dx cl), hp W1 a1 s1 _ (.bl _)⟩
def clEs : List Cl → List Pos → List Expr
  | c :: cs, p :: ps => .Name (clS c) p :: clEs cs ps
  | _, _ => []
theorem s_cls : ∀ (cs : List Cl) (es : List Expr), (es.length = cs.length) → (∀ (i : Nat) c, cs[i]? = some c → Gl X (clS c) ∧ X.mg (clS c) = none ∧ ∃ p, es[i]? = some (.Name (clS c) p)) → PA X es (fun _ H Q => Q (cs.map fun c => .ty (clN c)) H)
  | [], [], _, _ => pa_nil.weaken fun _ _ _ h => h
  | [], _ :: _, h, _ => by simp at h
  | _ :: _, [], h, _ => by simp at h
  | c :: cs, e :: es, hl, h => by
    obtain ⟨h1, h2, p, h3⟩ := h 0 c rfl
    have h3 : e = .Name (clS c) p := by simpa using h3
    subst h3
    exact (pa_cons (pe_cl c h1 h2) (s_cls cs es (by simpa using hl) fun i c' hi => h (i + 1) c' (by simpa using hi))).weaken fun _ _ _ h => h
theorem kit_any {K : Frg} (d : D) : ∀ cs : List Cl, PySem.W.kitAny K (.type (tyN d)) (cs.map fun c => .type (clN c)) = some (cs.any (isaV d))
  | [] => kitAny_nil
  | c :: cs => by
    rw [List.map_cons, List.any_cons]
    refine kitAny_cons (kit_ty (kit_cl d c)) (fun e => ?_) fun e => ?_
    · rw [e, Bool.false_or]; exact kit_any d cs
    · rw [e, Bool.true_or]
theorem paired_cls : ∀ cs : List Cl, Paired ClsV (cs.map fun c => V.ty (clN c)) (cs.map fun c => Value.type (clN c))
  | [] => .nil
  | c :: cs => .cons (.ty _) (paired_cls cs)
theorem s_isas (hK : X.K = g.K) (cs : List Cl) (hcs : cs.length ≤ 100) (ts : List Expr) (hi : Gl X "isinstance") (hmi : X.mg "isinstance" = none) (hl : ts.length = cs.length) (hts : ∀ (i : Nat) c, cs[i]? = some c → Gl X (clS c) ∧ X.mg (clS c) = none ∧ ∃ p, ts[i]? = some (.Name (clS c) p))
    (ha : PE X a (rdE g E ma)) {k : Nat} (hs : starEach (a :: [.Tuple ts k pt]) X.env = (false, eval a X.env) :: starEach [.Tuple ts k pt] X.env) :
    PE X (.Call (.Name "isinstance" p) [a, .Tuple ts k pt] [] pos) (rdE g E (M.bind ma fun r => M.bind (peek r) fun d => M.pure (.val (.bool (cs.any (isaV d)))))) := by
  refine (pe_callB call_isiT hi hmi (by decide +kernel) (pa_cons ha (pa_cons (pe_tup (s_cls cs ts hl hts)) pa_nil) hs) (by decide) (by decide) hs).weaken fun σ H Q ⟨W, ρ, eH, so, hp⟩ => ?_
  subst eH
  refine rd_bind (Ext.refl W) so hp fun x ρ1 W1 vx a1 b1 s1 rx hp => ?_
  obtain ⟨dx, ex, hp⟩ := po_peek hp
  rw [hK]
  refine ⟨by rw [List.length_map, sizeLine_eq]; omega, fun q hq => ?_⟩
  obtain ⟨s2, e2⟩ := so_upd (o := .tup (cs.map fun c => V.ty (clN c))) (fz := true) s1 hq
  have rt := s2.cont (rx.ext b1 e2) ex
  exact ⟨vx, q, _, _, _, _, rfl, upd_same, paired_cls cs, tyX_of s2.gh rt, kit_any dx cs, hp _ (a1.trans e2) s2 _ (.bl _)⟩
/-! ### tuple(range(..)) -/
theorem rgV_rp {K : Frg} {H : Hp} (i j : Int) : RpAll K H (rgV i j) (rgD i j) := by
  unfold rgV rgD
  have : ∀ l : List Nat, RpAll K H (l.map fun k => V.int (i + (k : Nat))) (l.map fun k => PyData.int (i + (k : Nat))) := fun l => by
    induction l with
    | nil => exact .nil
    | cons k l ih => exact .cons (.int _) ih
  exact this _
/-! ### a thing of one's own changes -/
theorem so_set {W : Wd} {σ : L2.St} {ρ : List Slot} {i : Nat} {pin : Option Nat} {m m' : Mv} {p : Addr} {o : HO} (so : SO g W σ ρ) (hi : ρ[i]? = some (.own pin m)) (hs : σ[i]? = some (some (.ref p)))
    (new : MvOk g.K ⟨upd W.H p o, W.G, W.O⟩ p m') : SO g ⟨upd W.H p o, W.G, W.O⟩ σ (ρ.set i (.own pin m')) ∧ Ext W ⟨upd W.H p o, W.G, W.O⟩ := by
  obtain ⟨q, k1, k2, k3, k4⟩ := so.slot hi
  rw [hs] at k1
  cases k1
  have gp := (so.og p k2).1
  have hp := (so.og p k2).2
  have il : i < ρ.length := (List.getElem?_eq_some_iff.mp hi).1
  have at_ : ∀ {j : Nat} {s : Slot}, (ρ.set i (.own pin m'))[j]? = some s → (j = i ∧ s = .own pin m') ∨ (j ≠ i ∧ ρ[j]? = some s) := fun {j s} h => by
    by_cases e : i = j
    · subst e
      rw [List.getElem?_set_self il] at h
      cases h
      exact .inl ⟨rfl, rfl⟩
    · rw [List.getElem?_set_ne e] at h
      exact .inr ⟨fun z => e z.symm, h⟩
  have tr : ∀ q, W.H q ≠ none → upd W.H p o q ≠ none := fun q h => by
    unfold upd
    split
    · simp
    · exact h
  refine ⟨⟨fun b x e => ?_, fun b h => ⟨(so.og b h).1, tr b (so.og b h).2⟩, fun b h => tr b (so.bt b h), by simpa using so.len, fun j s h => ?_, fun j l x y m1 m2 z h1 h2 h3 h4 => ?_⟩, ⟨Same.refl _, fun b x e n => ?_, fun b h => .inl h, fun b h _ _ => h, tr⟩⟩
  · have : b ≠ p := fun z => by rw [z] at e; have e : W.G p = some x := e; rw [gp] at e; cases e
    show upd W.H p o b = some x
    rw [upd_ne this]
    exact so.gh b x e
  · rcases at_ h with ⟨e1, e2⟩ | ⟨e1, e2⟩
    · subst e1 e2
      exact ⟨p, hs, k2, new, k4⟩
    · have := so.slots j s e2
      cases s with
      | non => trivial
      | val d => exact this
      | st t => exact this
      | own pin2 m2 =>
        obtain ⟨q, l1, l2, l3, l4⟩ := this
        have nq : q ≠ p := fun z => e1 (so.inj j i _ _ _ _ p e2 hi (z ▸ l1) hs)
        refine ⟨q, l1, l2, ?_, l4⟩
        cases m2 with
        | lst xs => obtain ⟨vs, n1, n2⟩ := l3; exact ⟨vs, by show upd W.H p o q = _; rw [upd_ne nq]; exact n1, n2⟩
        | dct xs => obtain ⟨vs, n1, n2⟩ := l3; exact ⟨vs, by show upd W.H p o q = _; rw [upd_ne nq]; exact n1, n2⟩
  · have o1 : ∃ m3, ρ[j]? = some (.own x m3) := by
      rcases at_ h1 with ⟨e1, e2⟩ | ⟨_, e2⟩
      · cases e2; subst e1; exact ⟨_, hi⟩
      · exact ⟨_, e2⟩
    have o2 : ∃ m3, ρ[l]? = some (.own y m3) := by
      rcases at_ h2 with ⟨e1, e2⟩ | ⟨_, e2⟩
      · cases e2; subst e1; exact ⟨_, hi⟩
      · exact ⟨_, e2⟩
    obtain ⟨m3, o1⟩ := o1
    obtain ⟨m4, o2⟩ := o2
    exact so.inj j l _ _ _ _ z o1 o2 h3 h4
  · have : b ≠ p := fun z => n (by rw [z]; exact k2)
    show upd W.H p o b = some x
    rw [upd_ne this]
    exact e
def meN : Me → Str
  | .append => "append" | .extend => "extend" | .pop => "pop" | .popAt => "pop" | .reverse => "reverse" | .clear => "clear" | .insert => "insert"
def meI : Me → String
  | .append => "list.append" | .extend => "list.extend" | .pop => "list.pop" | .popAt => "list.pop" | .reverse => "list.reverse" | .clear => "list.clear" | .insert => "list.insert"
/-- a method by values: p the thing, ds the arguments' data -/
def Rm (K : Frg) (m : Me) : V → List V → Hp → VK → Prop := fun x xs H Q => ∃ (W : Wd) (p : Addr) (ds : List D) (mv mv' : Mv) (d : D), W.H = H ∧ Same W.G W.H ∧ x = .ref p ∧ RpAll K W.G xs ds ∧ MvOk K W p mv ∧ meV m mv ds = some (d, mv') ∧
  ∀ v o, Rp K W.G v d → MvOk K ⟨upd W.H p o, W.G, W.O⟩ p mv' → Q v (upd W.H p o)
theorem RpAll.one {K : Frg} {H : Hp} {xs : List V} {d : D} (h : RpAll K H xs [d]) : ∃ x, xs = [x] ∧ Rp K H x d := by
  cases h with
  | cons h t => cases t; exact ⟨_, rfl, h⟩
theorem RpAll.dropLast {K : Frg} {H : Hp} {vs : List V} {ds : List D} (h : RpAll K H vs ds) : RpAll K H vs.dropLast ds.dropLast := by
  rw [List.dropLast_eq_take, List.dropLast_eq_take, h.length]
  exact h.take _
theorem mt_extendQ {K : Frg} (hK : X.K = K) : MtM X "list.extend" (fun x vs H Q => ∃ l b xs zs, x = .ref l ∧ vs = [.ref b] ∧ H l = some (.lst xs) ∧ Lq K H b zs ∧ xs.length + zs.length ≤ sizeLine ∧ Q .non (upd H l (.lst (xs ++ zs)))) := by
  intro pins s σ H x vs v us Q I rx rv ⟨l, b, xs, zs, e1, e2, hH, hB, hz, q⟩
  subst e1 e2 hK
  cases rx
  obtain ⟨u, e3, ru⟩ := rv.one
  subst e3
  cases ru
  obtain ⟨_, i1, n1, r1, l1, o1⟩ := I.lstM hH
  obtain ⟨i2, n2, r2, l2, _, o2⟩ := hB.at I
  have sz : i1.toArray.size + i2.toArray.size ≤ sizeLine := by simp only [List.size_toArray]; omega
  have nl : ¬ (!i1.toArray.isEmpty && Builtin.List.listTooLong (i1.toArray.size + i2.toArray.size)) = true := fun z => by rw [notLongL sz, Bool.and_false] at z; cases z
  have mm := AutoSeq1.list_extend_list_list_0 l i1.toArray n1 b i2.toArray n2 nl (by simp only [List.size_toArray]; omega) (Nat.le_succ_of_le sz)
  refine call_meets F.slot_list_extend ⟨_, o1, rfl⟩ F.entry_list_extend (F.args_list_extend_2 _ _) mm ⟨o1, o2, ?_⟩
  have I2 := I.lset (t' := s.toks) (its' := i1 ++ i2) (f := fun x => x ++ i2.toArray) hH o1 (by simp) (r1.append r2) (by simp only [List.length_append]; omega)
  exact ⟨.non, _, I2, rfl, q⟩
theorem mt_V (m : Me) : MtR X (meI m) (Rm X.K m) := by
  intro pins s σ H x xs v us Q I rx rxs ⟨W, p, ds, mv, mv', d, eH, gh, ex, rp, ok, e, q⟩
  subst eH ex
  cases mv with
  | dct _ => cases m <;> cases e
  | lst ys =>
    obtain ⟨vs, hp, ra⟩ := ok
    have fin : ∀ {o : HO} {v : V} {zs : List D} {ws : List V}, o = .lst ws → RpAll X.K W.G ws zs → MvOk X.K ⟨upd W.H p o, W.G, W.O⟩ p (.lst zs) := fun {o v zs ws} e r => ⟨ws, by rw [e]; exact upd_same, r⟩
    cases m with
    | append =>
      match ds, e, rp with
      | [a], e, rp =>
        obtain ⟨y, e1, ry⟩ := rp.one
        subst e1
        simp only [meV] at e
        split at e
        · rename_i hz
          cases e
          refine mt_append pins s σ _ _ _ v us Q I rx rxs ⟨p, vs, y, rfl, rfl, hp, ?_, q _ _ .non ⟨_, upd_same, ra.snoc ry⟩⟩
          rw [ra.length]
          exact of_decide_eq_true hz
        · cases e
    | extend =>
      match ds, e, rp with
      | [.list zs], e, rp =>
        obtain ⟨y, e1, ry⟩ := rp.one
        obtain ⟨b, ws, e2, h2, r2⟩ := ry.of_lst
        subst e1 e2
        simp only [meV] at e
        split at e
        · rename_i hz
          cases e
          refine mt_extendQ rfl pins s σ _ _ _ v us Q I rx rxs ⟨p, b, vs, ws, rfl, rfl, hp, h2.mono gh, ?_, q _ _ .non ⟨_, upd_same, ra.append r2⟩⟩
          rw [ra.length, r2.length]
          exact fitsL_ok hz
        · cases e
    | pop =>
      match ds, e, rp with
      | [], e, rp =>
        cases rp
        simp only [meV] at e
        split at e
        · rename_i y hy
          cases e
          obtain ⟨u, hu, ru⟩ := ra.get' hy
          refine mt_pop pins s σ _ _ _ v us Q I rx rxs ⟨p, vs, u, rfl, rfl, hp, ?_, q _ _ ru ⟨_, upd_same, ra.dropLast⟩⟩
          rw [ra.length]
          exact hu
        · cases e
    | popAt =>
      match ds, e, rp with
      | [.int i], e, rp =>
        obtain ⟨y, e1, ry⟩ := rp.one
        cases ry
        subst e1
        simp only [meV] at e
        split at e
        · rename_i hz
          simp only [Bool.and_eq_true, decide_eq_true_eq] at hz
          split at e
          · rename_i k hk
            split at e
            · rename_i y hy
              cases e
              obtain ⟨u, hu, ru⟩ := ra.get' hy
              refine mt_popAt pins s σ _ _ _ v us Q I rx rxs ⟨p, vs, i, k, u, rfl, rfl, hp, hz.1, hz.2, ?_, hu, q _ _ ru ⟨_, upd_same, ra.eraseIdx k⟩⟩
              rw [ra.length]
              exact hk
            · cases e
          · cases e
        · cases e
    | reverse =>
      match ds, e, rp with
      | [], e, rp =>
        cases rp
        cases e
        exact mt_reverse pins s σ _ _ _ v us Q I rx rxs ⟨p, vs, rfl, rfl, hp, q _ _ .non ⟨_, upd_same, ra.reverse⟩⟩
    | clear =>
      match ds, e, rp with
      | [], e, rp =>
        cases rp
        cases e
        exact mt_clear pins s σ _ _ _ v us Q I rx rxs ⟨p, vs, rfl, rfl, hp, q _ _ .non ⟨_, upd_same, .nil⟩⟩
    | insert =>
      match ds, e, rp with
      | [.int i, a], e, rp =>
        cases rp with
        | cons h t =>
          cases h
          obtain ⟨y, e1, ry⟩ := t.one
          subst e1
          simp only [meV] at e
          split at e
          · rename_i hz
            cases e
            simp only [Bool.and_eq_true, decide_eq_true_eq] at hz
            refine mt_insert pins s σ _ _ _ v us Q I rx rxs ⟨p, vs, i, y, rfl, rfl, hp, ?_, hz.1.2, hz.2, q _ _ .non ⟨_, upd_same, ((ra.take i.toNat).append (.cons ry .nil)).append (ra.drop i.toNat)⟩⟩
            rw [ra.length]
            exact hz.1.1
          · cases e
end
end PV
set_option Elab.async false
set_option linter.all false
set_option autoImplicit false
set_option maxRecDepth 100000
set_option maxHeartbeats 1000000
/-! PV: methods of one's own things, tuple(range(..)), what is walked. -/
namespace PV
open PySem PySem.Spec PyProof.Rows L2
theorem me_slot (m : Me) : PySem.Slot "list" (meN m) (meI m) := by
  cases m
  · exact F.slot_list_append
  · exact F.slot_list_extend
  · exact F.slot_list_pop
  · exact F.slot_list_pop
  · exact F.slot_list_reverse
  · exact F.slot_list_clear
  · exact F.slot_list_insert
theorem me_type (m : Me) : typeOf (.builtin (meI m)) = pure (.type "method_descriptor") := by
  cases m
  · exact F.type_list_append
  · exact F.type_list_extend
  · exact F.type_list_pop
  · exact F.type_list_pop
  · exact F.type_list_reverse
  · exact F.type_list_clear
  · exact F.type_list_insert
section
variable {X : Cx} {g : Gh} {E : WX} {a b c o e : Expr} {rest : List Expr} {pos apos cpos p p' pt : Pos} {ma mb mc : M Rv} {mt : M Bool} {ms : M (List Rv)} {es : List Expr} {i : Nat}
theorem own_at {W : Wd} {σ : L2.St} {ρ : List Slot} (so : SO g W σ ρ) (h : isOwnL ρ[i]? = true) : ∃ p pin xs vs, ρ[i]? = some (.own pin (.lst xs)) ∧ σ[i]? = some (some (.ref p)) ∧ W.H p = some (.lst vs) ∧ RpAll g.K W.G vs xs ∧ W.O p := by
  cases q : ρ[i]? with
  | none => rw [q] at h; cases h
  | some s =>
    cases s with
    | non => rw [q] at h; cases h
    | st t => rw [q] at h; cases h
    | val d => rw [q] at h; cases h
    | own pin m =>
      cases m with
      | dct _ => rw [q] at h; cases h
      | lst xs =>
        obtain ⟨p, k1, k2, ⟨vs, k3, k4⟩, _⟩ := so.slot q
        exact ⟨p, pin, xs, vs, rfl, k1, k3, k4, k2⟩
/-- what a method does, when its arguments stand still -/
theorem me_fin (hK : X.K = g.K) {m : Me} {ds : List D} {vs : List V} {p : Addr} {W W1 W2 : Wd} {σ : L2.St} {ρ2 : List Slot} {Q : VK} (a2 : Ext W W2) (s2 : SO g W2 σ ρ2) (hs : σ[i]? = some (some (.ref p))) (rp : RpAll g.K W2.G vs ds)
    (hp : Po g E W σ (fun r W' => ∀ v, RvOk g W W' σ v r → Q v W'.H) (meM m i ds ρ2)) : Rm X.K m (.ref p) vs W2.H Q := by
  unfold meM at hp
  cases q : ρ2[i]? with
  | none => rw [q] at hp; exact hp.elim
  | some s =>
    cases s with
    | non => rw [q] at hp; exact hp.elim
    | st t => rw [q] at hp; exact hp.elim
    | val d => rw [q] at hp; exact hp.elim
    | own pin mv =>
      simp only [q] at hp
      cases z : meV m mv ds with
      | none => simp only [z] at hp; exact hp.elim
      | some dm =>
        obtain ⟨d, mv'⟩ := dm
        simp only [z] at hp
        obtain ⟨p', k1, k2, k3, k4⟩ := s2.slot q
        rw [hs] at k1
        cases k1
        rw [hK]
        refine ⟨W2, p, ds, mv, mv', d, rfl, s2.gh, rfl, rp, k3, z, fun v ob rv new => ?_⟩
        obtain ⟨n1, n2⟩ := so_set s2 q hs new
        exact hp _ (a2.trans n2) n1 v rv
theorem s_me (hK : X.K = g.K) (m : Me) (ho : PE X o (tVar i)) (ha : PA X (e :: es) (rdL g E ms))
    (hbase : attributeBase o (meN m) X.env (eval o X.env) = eval o X.env)
    (hfew : ((backTo cpos (starEach (e :: es) X.env)).all (fun x => !x.1) && (backToKw cpos (keywordEach [] X.env)).all (fun x => x.1.isSome)
      && decide ((e :: es).length + ([] : List Keyword).length + (if ([] : List Keyword).isEmpty then 0 else 1) < 30)) = true)
    (hline : (apos.endLine == cpos.line) = true) (hs : starEach (e :: es) X.env = (false, eval e X.env) :: starEach es X.env) (hplain : (backTo cpos (starEach es X.env)).any (·.1) = false) :
    PE X (.Call (.Attribute o (meN m) apos) (e :: es) [] cpos) (rdE g E fun ρ => if isOwnL ρ[i]? then (M.bind ms fun rs => M.bind (frzs rs) fun ds => meM m i ds) ρ else .stuck) := by
  refine (pe_bm F.plainAttrs_list (me_slot m) (me_type m) (mt_V m) ho ha hbase hfew hline hs hplain).weaken fun σ H Q ⟨W, ρ, eH, so, hp⟩ => ?_
  subst eH
  simp only at hp
  split at hp
  · rename_i hi
    obtain ⟨p, pin, xs, vs, k1, k2, k3, k4, k5⟩ := own_at so hi
    refine ⟨.ref p, k2, .inl ⟨rfl, vs, (Lq.of k3).sq⟩, ?_⟩
    refine rd_bindL (Ext.refl W) so hp fun rs ρ1 W1 ws a1 _ s1 rvs hp => ?_
    obtain ⟨ds, ρ2, W2, a2, eH, s2, rp, _, _, hp⟩ := po_frzs hp a1 (Ext.refl W) s1 rvs
    rw [← eH]
    exact me_fin (W1 := W1) hK a2 s2 k2 rp hp
  · exact hp.elim
theorem s_me0 (hK : X.K = g.K) (m : Me) (ho : PE X o (tVar i)) (hbase : attributeBase o (meN m) X.env (eval o X.env) = eval o X.env) (hline : (apos.endLine == cpos.line) = true) :
    PE X (.Call (.Attribute o (meN m) apos) [] [] cpos) (rdE g E fun ρ => if isOwnL ρ[i]? then (M.bind (M.pure []) fun rs => M.bind (frzs rs) fun ds => meM m i ds) ρ else .stuck) := by
  refine (pe_bm0 F.plainAttrs_list (me_slot m) (me_type m) (mt_V m) ho hbase hline).weaken fun σ H Q ⟨W, ρ, eH, so, hp⟩ => ?_
  subst eH
  simp only at hp
  split at hp
  · rename_i hi
    obtain ⟨p, pin, xs, vs, k1, k2, k3, k4, k5⟩ := own_at so hi
    refine ⟨.ref p, k2, .inl ⟨rfl, vs, (Lq.of k3).sq⟩, ?_⟩
    exact me_fin (W1 := W) hK (Ext.refl W) so k2 .nil hp
  · exact hp.elim
theorem mb_assoc {α β γ : Type} (m : M α) (f : α → M β) (h : β → M γ) : M.bind (M.bind m f) h = M.bind m fun a => M.bind (f a) h := by
  funext ρ
  unfold M.bind
  cases m ρ <;> rfl
/-! ### what is walked -/
def LK (σ σ2 : L2.St) (w : Walked) : Prop := ∀ i xs, (i, xs) ∈ w.lock → σ2[i]? = σ[i]?
structure WalkOk (g : Gh) (W1 : Wd) (σ : L2.St) (J : It) (w : Walked) : Prop where
  goes : ∀ k W2 σ2 ρ2, k < w.items.length → Ext W1 W2 → SO g W2 σ2 ρ2 → LK σ σ2 w → lockOk ρ2 w.lock = true → J.go k W2.H
  stops : ∀ W2 σ2 ρ2, Ext W1 W2 → SO g W2 σ2 ρ2 → LK σ σ2 w → lockOk ρ2 w.lock = true → J.stop w.items.length W2.H
  yields : ∀ k W2 σ2 ρ2 x H', k < w.items.length → Ext W1 W2 → SO g W2 σ2 ρ2 → LK σ σ2 w → lockOk ρ2 w.lock = true → J.yld k W2.H x H' →
    ∃ W3 d, W3.H = H' ∧ Ext W2 W3 ∧ SO g W3 σ2 ρ2 ∧ w.items[k]? = some d ∧ Rp g.K W3.G x d
def rdI (g : Gh) (E : WX) (m : M Walked) : TI := fun σ H R => ∃ W ρ, W.H = H ∧ SO g W σ ρ ∧ Po g E W σ (fun w W' => ∀ J, WalkOk g W' σ J w → R J W'.H) (m ρ)
mutual
theorem deq_ok : ∀ {x y : D}, deq x y = true → x = y
  | .none, y, h => by cases y <;> first | rfl | cases h
  | .bool _, y, h => by cases y <;> first | (simp [deq] at h; rw [h]) | cases h
  | .int _, y, h => by cases y <;> first | (simp [deq] at h; rw [h]) | cases h
  | .str _, y, h => by cases y <;> first | (simp [deq] at h; rw [h]) | cases h
  | .list _, y, h => by cases y <;> first | (simp only [deq] at h; rw [deqs_ok h]) | cases h
  | .tuple _, y, h => by cases y <;> first | (simp only [deq] at h; rw [deqs_ok h]) | cases h
  | .dict _, y, h => by cases y <;> first | (simp only [deq] at h; rw [deqkv_ok h]) | cases h
theorem deqs_ok : ∀ {xs ys : List D}, deqs xs ys = true → xs = ys
  | [], [], _ => rfl
  | [], _ :: _, h => by cases h
  | _ :: _, [], h => by cases h
  | x :: xs, y :: ys, h => by
    simp only [deqs, Bool.and_eq_true] at h
    rw [deq_ok h.1, deqs_ok h.2]
theorem deqkv_ok : ∀ {xs ys : List (D × D)}, deqkv xs ys = true → xs = ys
  | [], [], _ => rfl
  | [], _ :: _, h => by cases h
  | _ :: _, [], h => by cases h
  | (a, b) :: xs, (c, d) :: ys, h => by
    simp only [deqkv, Bool.and_eq_true] at h
    rw [deq_ok h.1.1, deq_ok h.1.2, deqkv_ok h.2]
end
/-- the list at p stays, as long as the lock holds -/
theorem lock_lst {r : Rv} {W0 W1 W2 : Wd} {σ σ2 : L2.St} {ρ ρ2 : List Slot} {v : V} {xs : List D} (a0 : Ext W0 W1) (so : SO g W1 σ ρ) (rv : RvOk g W0 W1 σ v r) (hc : cont ρ r = some (.list xs)) (a1 : Ext W1 W2) (s2 : SO g W2 σ2 ρ2) (lk : ∀ i xs, (i, xs) ∈ lockOf ρ r → σ2[i]? = σ[i]?) (lo : lockOk ρ2 (lockOf ρ r) = true) :
    ∃ a vs, v = .ref a ∧ Lq g.K W2.H a vs ∧ RpAll g.K W2.G vs xs := by
  cases r with
  | val d =>
    simp [cont] at hc
    subst hc
    have rv : Rp g.K W1.G v (.list xs) := rv
    obtain ⟨a, vs, e1, h1, h2⟩ := (Rp.mono a1.fz rv).of_lst
    exact ⟨a, vs, e1, h1.mono s2.gh, h2⟩
  | fr m =>
    obtain ⟨p, e1, h2, h3, h4, h5⟩ := rv
    cases m with
    | dct _ => simp [cont, Mv.d] at hc
    | lst ys =>
      simp [cont, Mv.d] at hc
      subst hc
      obtain ⟨vs, k1, k2⟩ := h5
      exact ⟨p, vs, e1, Lq.of (a1.fr _ _ k1 h3), RpAll.mono a1.fz k2⟩
  | st t => cases hc
  | bor i =>
    have rv : σ[i]? = some (some v) := rv
    cases q : ρ[i]? with
    | none => simp only [cont, q] at hc; cases hc
    | some s =>
      cases s with
      | non => simp only [cont, q] at hc; cases hc
      | st t => simp only [cont, q] at hc; cases hc
      | val d =>
        simp [cont, q] at hc
        subst hc
        obtain ⟨v', k1, k2⟩ := so.slot q
        rw [rv] at k1
        cases k1
        obtain ⟨a, vs, e1, h1, h2⟩ := (Rp.mono a1.fz k2).of_lst
        exact ⟨a, vs, e1, h1.mono s2.gh, h2⟩
      | own pin m =>
        cases m with
        | dct _ => simp [cont, q, Mv.d] at hc
        | lst ys =>
          simp [cont, q, Mv.d] at hc
          subst hc
          have el : lockOf ρ (.bor i) = [(i, ys)] := by simp [lockOf, q]
          rw [el] at lo lk
          simp only [lockOk, List.all_cons, List.all_nil, Bool.and_true, lock1] at lo
          have hs2 : σ2[i]? = some (some v) := by rw [lk i ys (by simp)]; exact rv
          cases q2 : ρ2[i]? with
          | none => simp only [q2] at lo; cases lo
          | some s =>
            cases s with
            | non => simp only [q2] at lo; cases lo
            | st t => simp only [q2] at lo; cases lo
            | val d => simp only [q2] at lo; cases lo
            | own pin2 m2 =>
              cases m2 with
              | dct _ => simp only [q2] at lo; cases lo
              | lst zs =>
                simp only [q2] at lo
                have := deqs_ok lo
                subst this
                obtain ⟨p, k1, k2, ⟨vs, k3, k4⟩, _⟩ := s2.slot q2
                rw [hs2] at k1
                cases k1
                exact ⟨p, vs, rfl, Lq.of k3, k4⟩
theorem wk_list {r : Rv} {W0 W1 : Wd} {σ : L2.St} {ρ : List Slot} {v : V} {xs : List D} (a0 : Ext W0 W1) (so : SO g W1 σ ρ) (rv : RvOk g W0 W1 σ v r) (hc : cont ρ r = some (.list xs)) :
    ∃ a, v = .ref a ∧ (∃ ys, SqL g.K W1.H a ys) ∧ WalkOk g W1 σ (Itl g.K a) ⟨xs, lockOf ρ r⟩ := by
  obtain ⟨a, us, e1, h1, r1⟩ := (so.cont rv hc).lst
  subst e1
  refine ⟨a, rfl, ⟨us, h1.sq⟩, ⟨fun k W2 σ2 ρ2 hk e2 s2 lk lo => ?_, fun W2 σ2 ρ2 e2 s2 lk lo => ?_, fun k W2 σ2 ρ2 x H' hk e2 s2 lk lo y => ?_⟩⟩
  · obtain ⟨_, vs, e, h, rp⟩ := lock_lst a0 so rv hc e2 s2 lk lo
    cases e
    have hk : k < vs.length := by rw [rp.length]; exact hk
    exact ⟨vs, vs[k], h.sq, by simp [hk]⟩
  · obtain ⟨_, vs, e, h, rp⟩ := lock_lst a0 so rv hc e2 s2 lk lo
    cases e
    exact ⟨vs, h.sq, by rw [rp.length]; exact Nat.le_refl _⟩
  · obtain ⟨_, vs, e, h, rp⟩ := lock_lst a0 so rv hc e2 s2 lk lo
    cases e
    obtain ⟨e3, y⟩ := y
    subst e3
    obtain ⟨d, hd, rd⟩ := rp.get (y vs h.sq)
    exact ⟨W2, d, rfl, Ext.refl _, s2, hd, rd⟩
theorem lock_seq {r : Rv} {W0 W1 W2 : Wd} {σ σ2 : L2.St} {ρ ρ2 : List Slot} {v : V} {d : D} {tp : Bool} {xs : List D} (a0 : Ext W0 W1) (so : SO g W1 σ ρ) (rv : RvOk g W0 W1 σ v r) (hc : cont ρ r = some d) (hd : seqD d = some (tp, xs)) (a1 : Ext W1 W2) (s2 : SO g W2 σ2 ρ2) (lk : ∀ i xs, (i, xs) ∈ lockOf ρ r → σ2[i]? = σ[i]?) (lo : lockOk ρ2 (lockOf ρ r) = true) :
    ∃ a vs, v = .ref a ∧ Sqb tp g.K W2.H a vs ∧ RpAll g.K W2.G vs xs := by
  cases d with
  | list ys =>
    cases hd
    obtain ⟨a, vs, e, h, rp⟩ := lock_lst a0 so rv hc a1 s2 lk lo
    exact ⟨a, vs, e, h.sq, rp⟩
  | tuple ys =>
    cases hd
    have rt : Rp g.K W1.G v (.tuple xs) := so.cont rv hc
    obtain ⟨a, vs, e, h, rp⟩ := (Rp.mono a1.fz rt).of_tup
    exact ⟨a, vs, e, seqT_mono s2.gh h, rp⟩
  | _ => cases hd
theorem cont_seq {r : Rv} {W0 W1 : Wd} {σ : L2.St} {ρ : List Slot} {v : V} {d : D} {tp : Bool} {xs : List D} (so : SO g W1 σ ρ) (rv : RvOk g W0 W1 σ v r) (hc : cont ρ r = some d) (hd : seqD d = some (tp, xs)) : ∃ a vs, v = .ref a ∧ Sqb tp g.K W1.H a vs := by
  cases d with
  | list ys =>
    cases hd
    obtain ⟨a, us, e1, h1, r1⟩ := (so.cont rv hc).lst
    exact ⟨a, us, e1, h1.sq⟩
  | tuple ys =>
    cases hd
    have rt : Rp g.K W1.G v (.tuple xs) := so.cont rv hc
    obtain ⟨a, vs, e, h, rp⟩ := rt.of_tup
    exact ⟨a, vs, e, seqT_mono so.gh h⟩
  | _ => cases hd
theorem wk_enum {r : Rv} {W0 W1 : Wd} {σ : L2.St} {ρ : List Slot} {v : V} {d0 : D} {tp : Bool} {xs : List D} (a0 : Ext W0 W1) (so : SO g W1 σ ρ) (rv : RvOk g W0 W1 σ v r) (hc : cont ρ r = some d0) (hd0 : seqD d0 = some (tp, xs)) :
    ∃ a ys, v = .ref a ∧ Sqb tp g.K W1.H a ys ∧ WalkOk g W1 σ (IteS tp g.K a) ⟨(List.range xs.length).map fun i => .tuple [.int (i : Nat), xs.getD i .none], lockOf ρ r⟩ := by
  obtain ⟨a, us, e1, h1⟩ := cont_seq so rv hc hd0
  subst e1
  have el : ((List.range xs.length).map fun i => PyData.tuple [.int (i : Nat), xs.getD i .none]).length = xs.length := by simp
  refine ⟨a, us, rfl, h1, ⟨fun k W2 σ2 ρ2 hk e2 s2 lk lo => ?_, fun W2 σ2 ρ2 e2 s2 lk lo => ?_, fun k W2 σ2 ρ2 x H' hk e2 s2 lk lo y => ?_⟩⟩
  · obtain ⟨_, vs, e, h, rp⟩ := lock_seq a0 so rv hc hd0 e2 s2 lk lo
    cases e
    have hk : k < vs.length := by rw [rp.length, ← el]; exact hk
    exact ⟨vs, vs[k], h, by simp [hk]⟩
  · obtain ⟨_, vs, e, h, rp⟩ := lock_seq a0 so rv hc hd0 e2 s2 lk lo
    cases e
    exact ⟨vs, h, by rw [rp.length]; exact el.symm⟩
  · obtain ⟨_, vs, e, h, rp⟩ := lock_seq a0 so rv hc hd0 e2 s2 lk lo
    cases e
    obtain ⟨T, z, ev, hT, eH, y⟩ := y
    subst ev eH
    obtain ⟨d, hd, rd⟩ := rp.get (y vs h)
    have hk : k < xs.length := by rw [← el]; exact hk
    obtain ⟨k1, k2⟩ := so_upd (o := .tup [.int (k : Nat), z]) (fz := true) s2 hT
    refine ⟨_, .tuple [.int (k : Nat), d], rfl, k2, k1, ?_, .tup (.inl (.inl Wd.add_Gp)) (.cons (.int _) (.cons (Rp.mono k2.fz rd) .nil))⟩
    have e0 : xs[k] = d := by rw [List.getElem?_eq_getElem hk] at hd; exact Option.some.inj hd
    simp [List.getElem?_map, List.getElem?_range hk, List.getD, e0, List.getElem?_eq_getElem hk]
theorem lock_app {l l' : Lk} {ρ : List Slot} (h : lockOk ρ (l ++ l') = true) : lockOk ρ l = true ∧ lockOk ρ l' = true := by
  unfold lockOk at h ⊢
  rw [List.all_append, Bool.and_eq_true] at h
  exact h
theorem wk_zip {r1 r2 : Rv} {W0 W0' W1 : Wd} {σ : L2.St} {ρ : List Slot} {v1 v2 : V} {d1 d2 : D} {t1 t2 : Bool} {xs ys : List D} (a0 : Ext W0 W1) (a0' : Ext W0' W1) (so : SO g W1 σ ρ) (rv1 : RvOk g W0 W1 σ v1 r1) (rv2 : RvOk g W0' W1 σ v2 r2)
    (hc1 : cont ρ r1 = some d1) (hd1 : seqD d1 = some (t1, xs)) (hc2 : cont ρ r2 = some d2) (hd2 : seqD d2 = some (t2, ys)) :
    ∃ a b us ws, v1 = .ref a ∧ v2 = .ref b ∧ Sqb t1 g.K W1.H a us ∧ Sqb t2 g.K W1.H b ws ∧ WalkOk g W1 σ (ItzS t1 t2 g.K a b) ⟨zipD xs ys, lockOf ρ r1 ++ lockOf ρ r2⟩ := by
  obtain ⟨a, us, e1, h1⟩ := cont_seq so rv1 hc1 hd1
  obtain ⟨b, ws, e2, h2⟩ := cont_seq so rv2 hc2 hd2
  subst e1 e2
  have el : (zipD xs ys).length = min xs.length ys.length := by simp [zipD]
  have both : ∀ {W2 : Wd} {σ2 : L2.St} {ρ2 : List Slot}, Ext W1 W2 → SO g W2 σ2 ρ2 → LK σ σ2 ⟨zipD xs ys, lockOf ρ r1 ++ lockOf ρ r2⟩ → lockOk ρ2 (lockOf ρ r1 ++ lockOf ρ r2) = true →
      ∃ us ws, Sqb t1 g.K W2.H a us ∧ RpAll g.K W2.G us xs ∧ Sqb t2 g.K W2.H b ws ∧ RpAll g.K W2.G ws ys := fun e2 s2 lk lo => by
    obtain ⟨lo1, lo2⟩ := lock_app lo
    obtain ⟨_, us, e, h, rp⟩ := lock_seq a0 so rv1 hc1 hd1 e2 s2 (fun i xs z => lk i xs (List.mem_append_left _ z)) lo1
    obtain ⟨_, ws, e', h', rp'⟩ := lock_seq a0' so rv2 hc2 hd2 e2 s2 (fun i xs z => lk i xs (List.mem_append_right _ z)) lo2
    cases e; cases e'
    exact ⟨us, ws, h, rp, h', rp'⟩
  refine ⟨a, b, us, ws, rfl, rfl, h1, h2, ⟨fun k W2 σ2 ρ2 hk e2 s2 lk lo => ?_, fun W2 σ2 ρ2 e2 s2 lk lo => ?_, fun k W2 σ2 ρ2 x H' hk e2 s2 lk lo y => ?_⟩⟩
  · obtain ⟨us, ws, h, rp, h', rp'⟩ := both e2 s2 lk lo
    have hk : k < min xs.length ys.length := by rw [← el]; exact hk
    have k1 : k < us.length := by rw [rp.length]; omega
    have k2 : k < ws.length := by rw [rp'.length]; omega
    exact ⟨us, ws, us[k], ws[k], h, h', by simp [k1], by simp [k2]⟩
  · obtain ⟨us, ws, h, rp, h', rp'⟩ := both e2 s2 lk lo
    exact ⟨us, ws, h, h', by rw [rp.length, rp'.length]; exact el.symm⟩
  · obtain ⟨us, ws, h, rp, h', rp'⟩ := both e2 s2 lk lo
    obtain ⟨T, z1, z2, ev, hT, eH, y1, y2⟩ := y
    subst ev eH
    obtain ⟨d, hd, rd⟩ := rp.get (y1 us h)
    obtain ⟨e, he, re⟩ := rp'.get (y2 ws h')
    obtain ⟨k1, k2⟩ := so_upd (o := .tup [z1, z2]) (fz := true) s2 hT
    refine ⟨_, .tuple [d, e], rfl, k2, k1, ?_, .tup (.inl (.inl Wd.add_Gp)) (.cons (Rp.mono k2.fz rd) (.cons (Rp.mono k2.fz re) .nil))⟩
    show (zipD xs ys)[k]? = _
    unfold zipD
    rw [List.getElem?_zipWith, hd, he]
theorem wk_rgn {W1 : Wd} {σ : L2.St} {i j : Int} {l : Lk} : WalkOk g W1 σ (Itc i (-1) (i - j).toNat) ⟨rgDn i j, l⟩ := by
  have el : (rgDn i j).length = (i - j).toNat := by simp [rgDn]
  refine ⟨fun k W2 σ2 ρ2 hk e2 s2 lk lo => Nat.lt_of_lt_of_eq hk el, fun W2 σ2 ρ2 e2 s2 lk lo => Nat.le_of_eq el.symm, fun k W2 σ2 ρ2 x H' hk e2 s2 lk lo y => ?_⟩
  obtain ⟨e3, e4⟩ := y
  subst e3 e4
  have hk : k < (i - j).toNat := by rw [← el]; exact hk
  exact ⟨W2, .int (i + (k : Nat) * (-1)), rfl, Ext.refl _, s2, by simp [rgDn, List.getElem?_range hk], .int _⟩
theorem wk_tup {W1 : Wd} {σ : L2.St} {v : V} {xs : List D} {l : Lk} (h0 : Rp g.K W1.G v (.tuple xs)) (gh : Same W1.G W1.H) : ∃ a, v = .ref a ∧ (∃ ys, SqT g.K W1.H a ys) ∧ WalkOk g W1 σ (Itt g.K a) ⟨xs, l⟩ := by
  obtain ⟨a, us, e1, h1, r1⟩ := h0.of_tup
  subst e1
  have at2 : ∀ {W2 : Wd} {σ2 : L2.St} {ρ2 : List Slot}, Ext W1 W2 → SO g W2 σ2 ρ2 → SqT g.K W2.H a us ∧ RpAll g.K W2.G us xs := fun e2 s2 => ⟨seqT_mono s2.gh (seqT_mono e2.fz h1), RpAll.mono e2.fz r1⟩
  refine ⟨a, rfl, ⟨us, seqT_mono gh h1⟩, ⟨fun k W2 σ2 ρ2 hk e2 s2 lk lo => ?_, fun W2 σ2 ρ2 e2 s2 lk lo => ?_, fun k W2 σ2 ρ2 x H' hk e2 s2 lk lo y => ?_⟩⟩
  · have hk : k < us.length := by rw [r1.length]; exact hk
    exact ⟨us, us[k], (at2 e2 s2).1, by simp [hk]⟩
  · exact ⟨us, (at2 e2 s2).1, by rw [r1.length]; exact Nat.le_refl _⟩
  · obtain ⟨e3, y⟩ := y
    subst e3
    obtain ⟨d, hd, rd⟩ := (at2 e2 s2).2.get (y us (at2 e2 s2).1)
    exact ⟨W2, d, rfl, Ext.refl _, s2, hd, rd⟩
theorem wk_str {W1 : Wd} {σ : L2.St} {z : Str} {l : Lk} : WalkOk g W1 σ (Its z) ⟨z.cps.toList.map fun c => .str ⟨#[c]⟩, l⟩ := by
  have el : (z.cps.toList.map fun c => PyData.str ⟨#[c]⟩).length = z.cps.size := by simp
  refine ⟨fun k W2 σ2 ρ2 hk e2 s2 lk lo => Nat.lt_of_lt_of_eq hk el, fun W2 σ2 ρ2 e2 s2 lk lo => Nat.le_of_eq el.symm, fun k W2 σ2 ρ2 x H' hk e2 s2 lk lo y => ?_⟩
  obtain ⟨e3, c, hc, e4⟩ := y
  subst e3 e4
  exact ⟨W2, .str ⟨#[c]⟩, rfl, Ext.refl _, s2, by simp [hc], .str _⟩
theorem wk_rg {W1 : Wd} {σ : L2.St} {i j : Int} {l : Lk} : WalkOk g W1 σ (Itr i (j - i).toNat) ⟨rgD i j, l⟩ := by
  have el : (rgD i j).length = (j - i).toNat := by simp [rgD]
  refine ⟨fun k W2 σ2 ρ2 hk e2 s2 lk lo => Nat.lt_of_lt_of_eq hk el, fun W2 σ2 ρ2 e2 s2 lk lo => Nat.le_of_eq el.symm, fun k W2 σ2 ρ2 x H' hk e2 s2 lk lo y => ?_⟩
  obtain ⟨e3, e4⟩ := y
  subst e3 e4
  have hk : k < (j - i).toNat := by rw [← el]; exact hk
  exact ⟨W2, .int (i + k), rfl, Ext.refl _, s2, by simp [rgD, List.getElem?_range hk], .int _⟩
/-- a list, a tuple or a text -/
def iAny (K : Frg) (te : TE) : TI := fun σ H R => te σ H fun x H1 => (∃ l ys, x = .ref l ∧ SqL K H1 l ys ∧ R (Itl K l) H1) ∨ (∃ l ys, x = .ref l ∧ SqT K H1 l ys ∧ R (Itt K l) H1) ∨ ∃ z, x = .str z ∧ R (Its z) H1
theorem pi_any {tg : Expr} {te : TE} (he : PE X e te) : PI X tg e (iAny X.K te) := ⟨fun pins s σ H R I h => thn (he.run pins s σ H _ I h) fun v s1 ⟨x, H1, I1, r1, q1⟩ => by
  have own1 : ∀ {b : Addr}, b ∈ [s1.heap.objs.size] → FpOk X pins H1 b := fun {b} hb => by
    rw [List.mem_singleton.mp hb]
    exact I1.fpOk (Nat.le_refl _) (I1.hok.fresh (Nat.le_refl _))
  rcases q1 with ⟨l, ys, ex, hq, q⟩ | ⟨l, ys, ex, hq, q⟩ | ⟨z, ex, q⟩
  · subst ex
    cases r1
    obtain ⟨_, _, hl, _⟩ := I1.list hq
    exact wpAny_pyIter_list hl.isList ⟨_, [s1.heap.objs.size], _, _, H1, rfl, I1.kept (t' := s1.toks) fun c oc ec => Heap.get?_push_of_some _ ec, turn_list l _, ⟨_, Heap.get?_push_size _ rfl, rfl, rfl⟩, fun _ hb => own1 hb, q⟩
  · subst ex
    cases r1
    obtain ⟨its, _, ht, _⟩ := I1.tuple hq
    exact wpAny_pyIter_tuple (items := its.toArray) ht ⟨_, [s1.heap.objs.size], _, _, H1, rfl, I1.kept (t' := s1.toks) fun c oc ec => Heap.get?_push_of_some _ ec, turn_tuple l _, ⟨_, Heap.get?_push_size _ rfl, rfl, rfl⟩, fun _ hb => own1 hb, q⟩
  · subst ex
    obtain ⟨t, rfl⟩ := r1
    cases hz : z.cps.all (· < 128) with
    | false => exact wpAny_pyIter_wide hz (pi_one (tk := s1.toks) I1 _ (turn_str _ z t "str_iterator" (.inr rfl)) ⟨_, Heap.get?_push_size _ rfl, rfl, rfl⟩ q)
    | true => exact wpAny_pyIter_ascii hz (pi_one (tk := s1.toks) I1 _ (turn_str _ z t "str_ascii_iterator" (.inl rfl)) ⟨_, Heap.get?_push_size _ rfl, rfl, rfl⟩ q)⟩
theorem _root_.L2.PI.weaken {X : Cx} {tg e : Expr} {t t' : TI} (h : PI X tg e t) (w : ∀ σ H Q, t' σ H Q → t σ H Q) : PI X tg e t' := ⟨fun pins s σ H Q I q => h.run pins s σ H Q I (w _ _ _ q)⟩
theorem s_iex {tg : Expr} (hK : X.K = g.K) (ha : PE X a (rdE g E ma)) : PI X tg a (rdI g E (M.bind ma walkM)) := by
  refine (pi_any ha).weaken fun σ H R ⟨W, ρ, eH, so, hp⟩ => ?_
  subst eH
  refine rd_bind (Ext.refl W) so hp fun x ρ1 W1 vx a1 b1 s1 rx hp => ?_
  unfold walkM at hp
  cases hc : cont ρ1 x with
  | none => simp only [hc] at hp; exact hp.elim
  | some d =>
    simp only [hc] at hp
    rw [hK]
    cases d with
    | list xs =>
      simp only [itemsOf] at hp
      obtain ⟨l, e1, ⟨ys, h1⟩, wk⟩ := wk_list b1 s1 rx hc
      exact .inl ⟨l, ys, e1, h1, hp W1 a1 s1 _ wk⟩
    | tuple xs =>
      simp only [itemsOf] at hp
      have rt : Rp g.K W1.G vx (.tuple xs) := s1.cont rx hc
      obtain ⟨l, e1, ⟨ys, h1⟩, wk⟩ := wk_tup (σ := σ) (l := lockOf ρ1 x) rt s1.gh
      exact .inr (.inl ⟨l, ys, e1, h1, hp W1 a1 s1 _ wk⟩)
    | str z =>
      simp only [itemsOf] at hp
      exact .inr (.inr ⟨z, (s1.cont rx hc).str, hp W1 a1 s1 _ wk_str⟩)
    | _ => exact hp.elim
theorem s_irg1 {tg : Expr} (hg : Gl X "range") (hm : X.mg "range" = none) (ha : PE X a (rdE g E ma)) (hs : starEach [a] X.env = [(false, eval a X.env)]) :
    PI X tg (.Call (.Name "range" p) [a] [] pos) (rdI g E (M.bind ma fun r => M.bind (peek r) fun d => rgM (.int 0) d)) := by
  refine (pi_range1 hg hm (pa_cons ha pa_nil hs) hs).weaken fun σ H R ⟨W, ρ, eH, so, hp⟩ => ?_
  subst eH
  refine rd_bind (Ext.refl W) so hp fun x ρ1 W1 vx a1 b1 s1 rx hp => ?_
  obtain ⟨dx, ex, hp⟩ := po_peek hp
  have rt := s1.cont rx ex
  cases dx with
  | int j =>
    cases rt.int
    simp only [rgM] at hp
    split at hp
    · rename_i hr
      simp only [rgOk, Bool.and_eq_true, decide_eq_true_eq] at hr
      refine ⟨j, rfl, hr.1.2, hr.2, ?_⟩
      have := hp W1 a1 s1 (Itr 0 j.toNat) (by have w := wk_rg (g := g) (W1 := W1) (σ := σ) (i := 0) (j := j) (l := []); rw [Int.sub_zero] at w; exact w)
      exact this
    · exact hp.elim
  | _ => exact hp.elim
theorem s_irg2 {tg : Expr} (hg : Gl X "range") (hm : X.mg "range" = none) (ha : PE X a (rdE g E ma)) (hb : PE X b (rdE g E mb)) (hs : starEach [a, b] X.env = [(false, eval a X.env), (false, eval b X.env)]) (hs2 : starEach [b] X.env = [(false, eval b X.env)]) :
    PI X tg (.Call (.Name "range" p) [a, b] [] pos) (rdI g E (bin2 ma mb rgM)) := by
  refine (pi_range2 hg hm (pa_cons ha (pa_cons hb pa_nil hs2) (by rw [hs, hs2])) hs hs2).weaken fun σ H R ⟨W, ρ, eH, so, hp⟩ => ?_
  subst eH
  unfold iRng2 tCons
  refine rd_bind (Ext.refl W) so hp fun x ρ1 W1 vx a1 b1 s1 rx hp => ?_
  refine rd_bind a1 s1 hp fun y ρ2 W2 vy a2 b2 s2 ry hp => ?_
  obtain ⟨dx, ex, hp⟩ := po_peek hp
  obtain ⟨dy, ey, hp⟩ := po_peek hp
  have rx' := s2.cont (rx.ext a1 b2) ex
  have ry' := s2.cont ry ey
  cases dx with
  | int i =>
    cases dy with
    | int j =>
      cases rx'.int
      cases ry'.int
      simp only [rgM] at hp
      split at hp
      · rename_i hr
        simp only [rgOk, Bool.and_eq_true, decide_eq_true_eq] at hr
        exact ⟨i, j, rfl, ⟨hr.1.1.1, hr.1.1.2, hr.1.2, hr.2⟩, hp W2 a2 s2 _ wk_rg⟩
      · exact hp.elim
    | _ => exact hp.elim
  | _ => exact hp.elim
theorem s_ienum {elts : List Expr} {kk : Nat} {tpos : Pos} (hK : X.K = g.K) (hg : Gl X "enumerate") (hm : X.mg "enumerate" = none) (ha : PE X a (rdE g E ma)) (hs : starEach [a] X.env = [(false, eval a X.env)]) :
    PI X (.Tuple elts kk tpos) (.Call (.Name "enumerate" p) [a] [] pos) (rdI g E (M.bind ma enumM)) := by
  refine (pi_enumS hg hm (pa_cons ha pa_nil hs) hs).weaken fun σ H R ⟨W, ρ, eH, so, hp⟩ => ?_
  subst eH
  refine rd_bind (Ext.refl W) so hp fun x ρ1 W1 vx a1 b1 s1 rx hp => ?_
  rw [hK]
  unfold enumM at hp
  cases hc : cont ρ1 x with
  | none => simp only [hc] at hp; exact hp.elim
  | some d =>
    simp only [hc] at hp
    cases hd : seqD d with
    | none => simp only [hd] at hp; exact hp.elim
    | some q =>
      obtain ⟨tp, xs⟩ := q
      simp only [hd] at hp
      obtain ⟨l, ys, e1, h1, wk⟩ := wk_enum b1 s1 rx hc hd
      subst e1
      exact ⟨tp, l, ys, rfl, h1, hp W1 a1 s1 _ wk⟩
theorem s_izip {elts : List Expr} {kk : Nat} {tpos : Pos} (hK : X.K = g.K) (hg : Gl X "zip") (hm : X.mg "zip" = none) (ha : PE X a (rdE g E ma)) (hb : PE X b (rdE g E mb)) (hs : starEach [a, b] X.env = [(false, eval a X.env), (false, eval b X.env)]) (hs2 : starEach [b] X.env = [(false, eval b X.env)]) :
    PI X (.Tuple elts kk tpos) (.Call (.Name "zip" p) [a, b] [] pos) (rdI g E (M.bind ma fun x => M.bind mb fun y => zipM x y)) := by
  refine (pi_zipS hg hm (pa_cons ha (pa_cons hb pa_nil hs2) (by rw [hs, hs2])) (by rw [hs, hs2]) (by rw [hs2]; rfl)).weaken fun σ H R ⟨W, ρ, eH, so, hp⟩ => ?_
  subst eH
  unfold iZipS tCons
  refine rd_bind (Ext.refl W) so hp fun x ρ1 W1 vx a1 b1 s1 rx hp => ?_
  refine rd_bind a1 s1 hp fun y ρ2 W2 vy a2 b2 s2 ry hp => ?_
  rw [hK]
  unfold zipM at hp
  cases hc : cont ρ2 x with
  | none => simp only [hc] at hp; exact hp.elim
  | some d =>
    cases hc2 : cont ρ2 y with
    | none => simp only [hc, hc2] at hp; exact hp.elim
    | some e =>
      simp only [hc, hc2] at hp
      cases hd : seqD d with
      | none => simp only [hd] at hp; exact hp.elim
      | some q =>
        cases hd2 : seqD e with
        | none => simp only [hd, hd2] at hp; exact hp.elim
        | some q2 =>
          obtain ⟨t1, xs⟩ := q
          obtain ⟨t2, ys⟩ := q2
          simp only [hd, hd2] at hp
          obtain ⟨l, l', us, ws, e1, e2, h1, h2, wk⟩ := wk_zip (b1.trans b2) b2 s2 (rx.ext a1 b2) ry hc hd hc2 hd2
          subst e1 e2
          exact ⟨t1, t2, l, l', us, ws, rfl, h1, h2, hp W2 a2 s2 _ wk⟩
theorem s_irg3 {tg : Expr} (hg : Gl X "range") (hm : X.mg "range" = none) (ha : PE X a (rdE g E ma)) (hb : PE X b (rdE g E mb)) (hc : PE X c (rdE g E mc)) (hs : starEach [a, b, c] X.env = [(false, eval a X.env), (false, eval b X.env), (false, eval c X.env)])
    (hs2 : starEach [b, c] X.env = [(false, eval b X.env), (false, eval c X.env)]) (hs3 : starEach [c] X.env = [(false, eval c X.env)]) :
    PI X tg (.Call (.Name "range" p) [a, b, c] [] pos) (rdI g E (M.bind ma fun x => M.bind mb fun y => M.bind mc fun z => M.bind (peek x) fun dx => M.bind (peek y) fun dy => M.bind (peek z) fun dz => rgM3 dx dy dz)) := by
  refine (pi_range3 hg hm (pa_cons ha (pa_cons hb (pa_cons hc pa_nil hs3) (by rw [hs2, hs3])) (by rw [hs, hs2])) (by rw [hs, hs2]) (by rw [hs2]; rfl)).weaken fun σ H R ⟨W, ρ, eH, so, hp⟩ => ?_
  subst eH
  unfold iRng3 tCons
  refine rd_bind (Ext.refl W) so hp fun x ρ1 W1 vx a1 b1 s1 rx hp => ?_
  refine rd_bind a1 s1 hp fun y ρ2 W2 vy a2 b2 s2 ry hp => ?_
  refine rd_bind a2 s2 hp fun z ρ3 W3 vz a3 b3 s3 rz hp => ?_
  obtain ⟨dx, ex, hp⟩ := po_peek hp
  obtain ⟨dy, ey, hp⟩ := po_peek hp
  obtain ⟨dz, ez, hp⟩ := po_peek hp
  have rx' := s3.cont (rx.ext a1 (b2.trans b3)) ex
  have ry' := s3.cont (ry.ext b2 b3) ey
  have rz' := s3.cont rz ez
  cases dx with
  | int i =>
    cases dy with
    | int j =>
      cases dz with
      | int k =>
        cases rx'.int
        cases ry'.int
        cases rz'.int
        simp only [rgM3] at hp
        split at hp
        · rename_i hr
          simp only [rgOk, Bool.and_eq_true, decide_eq_true_eq] at hr
          obtain ⟨hr, e⟩ := hr
          subst e
          exact ⟨i, j, -1, _, rfl, RgC.neg hr.1.1.1 hr.1.1.2 hr.1.2 hr.2, hp W3 a3 s3 _ wk_rgn⟩
        · exact hp.elim
      | _ => exact hp.elim
    | _ => exact hp.elim
  | _ => exact hp.elim
/-! ### tuple(range(..)) -/
theorem tupRg_fin {W W1 : Wd} {σ : L2.St} {ρ1 : List Slot} {i j : Int} {Q : VK} (a1 : Ext W W1) (s1 : SO g W1 σ ρ1)
    (hp : Po g E W σ (fun r W' => ∀ v, RvOk g W W' σ v r → Q v W'.H) (M.bind (rgM (.int i) (.int j)) (fun w => if fitsL w.items.length then M.pure (.val (.tuple w.items)) else stuckM) ρ1)) :
    RgOk i j ∧ ∀ q, W1.H q = none → Q (.ref q) (upd W1.H q (.tup (rgV i j))) := by
  by_cases hr : rgOk i j = true
  · simp only [rgM, hr, if_true, M.bind, M.pure] at hp
    by_cases hf : fitsL (rgD i j).length = true
    · simp only [hf, if_true] at hp
      have el : (rgD i j).length = (j - i).toNat := by simp [rgD]
      have hz : (rgD i j).length ≤ sizeLine := fitsL_ok hf
      rw [el, sizeLine_eq] at hz
      simp only [rgOk, Bool.and_eq_true, decide_eq_true_eq] at hr
      refine ⟨⟨hr.1.1.1, hr.1.1.2, hr.1.2, hr.2, hz⟩, fun q hq => ?_⟩
      obtain ⟨k1, k2, k3⟩ := (New.tup hq (rgV_rp (K := g.K) (H := W1.G) i j)).ok a1 s1
      exact hp _ k1 k2 _ k3
    · simp only [hf] at hp; exact hp.elim
  · simp only [rgM, hr, M.bind] at hp; exact hp.elim
theorem s_tupRg1 (hK : X.K = g.K) (hc : X.calm = true) (ht : Gl X "tuple") (hmt : X.mg "tuple" = none) (hg : Gl X "range") (hm : X.mg "range" = none) (ha : PE X a (rdE g E ma)) (hs : starEach [a] X.env = [(false, eval a X.env)]) {p2 pos2 : Pos} :
    PE X (.Call (.Name "tuple" p2) [.Call (.Name "range" p) [a] [] pos] [] pos2) (rdE g E (M.bind (M.bind ma fun r => M.bind (peek r) fun d => rgM (.int 0) d) fun w => if fitsL w.items.length then M.pure (.val (.tuple w.items)) else stuckM)) := by
  refine (pe_tupRg hc ht hmt (prg_1 hg hm ha hs)).weaken fun σ H Q ⟨W, ρ, eH, so, hp⟩ => ?_
  subst eH
  rw [mb_assoc] at hp
  unfold tTupRg tRg1
  refine rd_bind (Ext.refl W) so hp fun x ρ1 W1 vx a1 b1 s1 rx hp => ?_
  rw [mb_assoc] at hp
  obtain ⟨dx, ex, hp⟩ := po_peek hp
  have rt := s1.cont rx ex
  cases dx with
  | int j =>
    cases rt.int
    exact ⟨j, rfl, tupRg_fin a1 s1 hp⟩
  | _ => exact hp.elim
theorem s_tupRg2 (hK : X.K = g.K) (hc : X.calm = true) (ht : Gl X "tuple") (hmt : X.mg "tuple" = none) (hg : Gl X "range") (hm : X.mg "range" = none) (ha : PE X a (rdE g E ma)) (hb : PE X b (rdE g E mb)) (hs : starEach [a, b] X.env = [(false, eval a X.env), (false, eval b X.env)]) (hs2 : starEach [b] X.env = [(false, eval b X.env)]) {p2 pos2 : Pos} :
    PE X (.Call (.Name "tuple" p2) [.Call (.Name "range" p) [a, b] [] pos] [] pos2) (rdE g E (M.bind (bin2 ma mb rgM) fun w => if fitsL w.items.length then M.pure (.val (.tuple w.items)) else stuckM)) := by
  refine (pe_tupRg hc ht hmt (prg_2 hg hm ha hb (by rw [hs, hs2]) hs2 (by rw [hs2]; rfl))).weaken fun σ H Q ⟨W, ρ, eH, so, hp⟩ => ?_
  subst eH
  unfold bin2 at hp
  rw [mb_assoc] at hp
  unfold tTupRg tRg2
  refine rd_bind (Ext.refl W) so hp fun x ρ1 W1 vx a1 b1 s1 rx hp => ?_
  rw [mb_assoc] at hp
  refine rd_bind a1 s1 hp fun y ρ2 W2 vy a2 b2 s2 ry hp => ?_
  rw [mb_assoc] at hp
  obtain ⟨dx, ex, hp⟩ := po_peek hp
  rw [mb_assoc] at hp
  obtain ⟨dy, ey, hp⟩ := po_peek hp
  have rx' := s2.cont (rx.ext a1 b2) ex
  have ry' := s2.cont ry ey
  cases dx with
  | int i =>
    cases dy with
    | int j =>
      cases rx'.int
      cases ry'.int
      exact ⟨i, j, rfl, rfl, tupRg_fin a2 s2 hp⟩
    | _ => exact hp.elim
  | _ => exact hp.elim
end
end PV
set_option Elab.async false
set_option linter.all false
set_option autoImplicit false
set_option maxRecDepth 100000
set_option maxHeartbeats 1000000
/-! PV: methods that look at data alone; list(range(..)). -/
namespace PV
open PySem PySem.Spec PyProof.Rows L2
def dmT : DM → String
  | .lindex => "list" | .join => "str" | .sindex => "str" | .scount => "str" | .starts => "str" | .split => "str"
def dmN : DM → Str
  | .join => "join" | .sindex => "index" | .scount => "count" | .starts => "startswith" | .split => "split" | .lindex => "index"
def dmI : DM → String
  | .join => "str.join" | .sindex => "str.index" | .scount => "str.count" | .starts => "str.startswith" | .split => "str.split" | .lindex => "list.index"
theorem dm_attrs (m : DM) : PlainAttrs (dmT m) := by
  cases m <;> first | exact F.plainAttrs_str | exact F.plainAttrs_list
theorem dm_slot (m : DM) : PySem.Slot (dmT m) (dmN m) (dmI m) := by
  cases m
  · exact F.slot_str_join
  · exact F.slot_str_index
  · exact F.slot_str_count
  · exact F.slot_str_startswith
  · exact F.slot_str_split
  · exact F.slot_list_index
theorem dm_type (m : DM) : typeOf (.builtin (dmI m)) = pure (.type "method_descriptor") := by
  cases m
  · exact F.type_str_join
  · exact F.type_str_index
  · exact F.type_str_count
  · exact F.type_str_startswith
  · exact F.type_str_split
  · exact F.type_list_index
section
variable {X : Cx} {o a b e : Expr} {es : List Expr} {g : Gh} {E : WX} {mo ma mb : M Rv} {ms : M (List Rv)} {cpos apos pos p : Pos}
theorem tx_rp {K : Frg} {H : Hp} : ∀ ys : List Str, RpAll K H (ys.map V.str) (ys.map PyData.str)
  | [] => .nil
  | y :: ys => .cons (.str y) (tx_rp ys)
theorem find_at {α : Type} {xs : List α} {f : α → Bool} {j : Nat} (h : xs.findIdx? f = some j) : ∃ z, xs[j]? = some z ∧ f z = true ∧ ∀ m z', m < j → xs[m]? = some z' → f z' = false := by
  obtain ⟨h1, h2, h3⟩ := List.findIdx?_eq_some_iff_getElem.mp h
  refine ⟨xs[j], List.getElem?_eq_getElem h1, h2, fun m z' hm hz => ?_⟩
  have := h3 m hm
  obtain ⟨k1, k2⟩ := List.getElem?_eq_some_iff.mp hz
  rw [k2] at this
  simpa using this
theorem mt_dm (hu : X.A.units + 66 < cLine) (m : DM) : MtR X (dmI m) fun x xs H Q => Rts X.K (dmV m) (x :: xs) H Q := by
  intro pins s σ H x xs v us Q I rx rxs ⟨W, ds, r, eH, gh, ra, e, q⟩
  subst eH
  cases m with
  | join =>
    match ds, e, ra with
    | [.str z, d], e, ra =>
      obtain ⟨x0, y, e1, h1, h2⟩ := ra.two
      cases e1
      cases h1.str
      simp only [dmV] at e
      cases e2 : rowD d with
      | none => rw [e2] at e; cases e
      | some w =>
        rw [e2] at e
        simp only [Option.bind] at e
        cases e3 : strsOf w with
        | none => rw [e3] at e; cases e
        | some ys =>
          rw [e3] at e
          simp only at e
          split at e
          · rename_i hz
            cases e
            cases d with
            | list l =>
              cases e2
              obtain ⟨p, vs, e4, k1, k2⟩ := h2.lst
              subst e4
              cases strsOf_map k2 e3
              exact mt_join pins s σ _ _ _ v us Q I rx rxs ⟨z, p, ys, rfl, rfl, .inl k1.sq, of_decide_eq_true hz, q _ _ (.old (.str _))⟩
            | tuple l =>
              cases e2
              obtain ⟨p, vs, e4, k1, k2⟩ := h2.tup
              subst e4
              cases strsOf_map k2 e3
              exact mt_join pins s σ _ _ _ v us Q I rx rxs ⟨z, p, ys, rfl, rfl, .inr (seqT_mono gh k1), of_decide_eq_true hz, q _ _ (.old (.str _))⟩
            | _ => cases e2
          · cases e
  | sindex =>
    match ds, e, ra with
    | [.str z, .str w], e, ra =>
      obtain ⟨x0, y, e1, h1, h2⟩ := ra.two
      cases e1
      cases h1.str
      cases h2.str
      simp only [dmV] at e
      split at e
      · rename_i i rest hz
        cases e
        exact mt_sindex pins s σ _ _ _ v us Q I rx rxs ⟨z, w, i, rest, rfl, rfl, hz, q _ _ (.old (.int _))⟩
      · cases e
  | scount =>
    match ds, e, ra with
    | [.str z, .str w], e, ra =>
      obtain ⟨x0, y, e1, h1, h2⟩ := ra.two
      cases e1
      cases h1.str
      cases h2.str
      cases e
      exact mt_count pins s σ _ _ _ v us Q I rx rxs ⟨z, w, rfl, rfl, q _ _ (.old (.int _))⟩
  | starts =>
    match ds, e, ra with
    | [.str z, .str w], e, ra =>
      obtain ⟨x0, y, e1, h1, h2⟩ := ra.two
      cases e1
      cases h1.str
      cases h2.str
      cases e
      exact mt_startswith pins s σ _ _ _ v us Q I rx rxs ⟨z, w, rfl, rfl, q _ _ (.old (.bl _))⟩
  | split =>
    match ds, e, ra with
    | [.str z, .str w], e, ra =>
      obtain ⟨x0, y, e1, h1, h2⟩ := ra.two
      cases e1
      cases h1.str
      cases h2.str
      simp only [dmV] at e
      split at e
      · rename_i hz
        cases e
        simp only [Bool.and_eq_true, Bool.not_eq_true', decide_eq_true_eq] at hz
        exact mt_split pins s σ _ _ _ v us Q I rx rxs ⟨z, w, rfl, rfl, hz.1, hz.2, fun p hp => q _ _ (.lst hp (tx_rp _))⟩
      · cases e
  | lindex =>
    match ds, e, ra with
    | [.list l, w], e, ra =>
      obtain ⟨x0, y, e1, h1, h2⟩ := ra.two
      cases e1
      have d1 := h1
      obtain ⟨p, vs, e4, k1, k2⟩ := h1.lst
      subst e4
      simp only [dmV] at e
      split at e
      · rename_i hz
        simp only [Bool.and_eq_true] at hz
        cases e5 : at1 l w with
        | none => rw [e5] at e; cases e
        | some j =>
          rw [e5] at e
          cases e
          obtain ⟨z, f1, f2, f3⟩ := find_at e5
          exact mt_indexD (by omega) pins s σ _ _ _ v us Q I rx rxs ⟨p, y, w, l, j, z, rfl, rfl, d1.dp gh hz.1, h2.dp gh hz.2, hz.1, hz.2, f1, f2, f3, q _ _ (.old (.int _))⟩
      · cases e
theorem dm_ty {W : Wd} {v : V} {d : D} {m : DM} (gh : Same W.G W.H) (h : Rt g.K W v d) (e : dmTy m d = true) : tyV g.K (dmT m) v W.H := by
  cases d with
  | str z =>
    cases h.str
    cases m <;> first | (cases e; done) | rfl
  | list l =>
    obtain ⟨p, vs, e4, k1, k2⟩ := h.lst
    subst e4
    cases m <;> first | (cases e; done) | exact .inl ⟨rfl, vs, k1.sq⟩
  | _ => cases m <;> cases e
theorem s_dm (hK : X.K = g.K) (hu : X.A.units + 66 < cLine) (m : DM) (ho : PE X o (rdE g E mo)) (ha : PA X (e :: es) (rdL g E ms))
    (hbase : attributeBase o (dmN m) X.env (eval o X.env) = eval o X.env)
    (hfew : ((backTo cpos (starEach (e :: es) X.env)).all (fun x => !x.1) && (backToKw cpos (keywordEach [] X.env)).all (fun x => x.1.isSome)
      && decide ((e :: es).length + ([] : List Keyword).length + (if ([] : List Keyword).isEmpty then 0 else 1) < 30)) = true)
    (hline : (apos.endLine == cpos.line) = true) (hs : starEach (e :: es) X.env = (false, eval e X.env) :: starEach es X.env) (hplain : (backTo cpos (starEach es X.env)).any (·.1) = false) :
    PE X (.Call (.Attribute o (dmN m) apos) (e :: es) [] cpos) (rdE g E (M.bind mo fun r => M.bind (peek r) fun d => if dmTy m d then M.bind ms fun rs => M.bind (peeks (r :: rs)) fun ds => lift (dmV m ds) else stuckM)) := by
  refine (pe_bm (dm_attrs m) (dm_slot m) (dm_type m) (mt_dm hu m) ho ha hbase hfew hline hs hplain).weaken fun σ H Q ⟨W, ρ, eH, so, hp⟩ => ?_
  subst eH
  unfold tBM
  refine rd_bind (Ext.refl W) so hp fun x ρ1 W1 vx a1 b1 s1 rx hp => ?_
  obtain ⟨dx, ex, hp⟩ := po_peek hp
  have rt := s1.cont rx ex
  split at hp
  · rename_i hd
    refine ⟨by rw [hK]; exact dm_ty s1.gh rt hd, ?_⟩
    refine rd_bindL a1 s1 hp fun rs ρ2 W2 vs a2 b2 s2 rvs hp => ?_
    obtain ⟨ds, rts, hp⟩ := po_peeks hp s2 (RvsOk.push rx b1 b2 rvs)
    obtain ⟨z, ez, hp⟩ := po_lift1 hp
    rw [hK]
    refine ⟨W2, ds, z, rfl, s2.gh, rts, ez, fun v W' n => ?_⟩
    obtain ⟨k1, k2, k3⟩ := n.ok a2 s2
    exact hp W' k1 k2 v k3
  · exact hp.elim
/-! ### list(range(..)) -/
theorem lstRg_fin {W W1 : Wd} {σ : L2.St} {ρ1 : List Slot} {i j : Int} {Q : VK} (a1 : Ext W W1) (s1 : SO g W1 σ ρ1)
    (hp : Po g E W σ (fun r W' => ∀ v, RvOk g W W' σ v r → Q v W'.H) (M.bind (rgM (.int i) (.int j)) (fun w => if fitsL w.items.length then M.pure (.fr (.lst w.items)) else stuckM) ρ1)) :
    RgOk i j ∧ ∀ q, W1.H q = none → Q (.ref q) (upd W1.H q (.lst (rgV i j))) := by
  by_cases hr : rgOk i j = true
  · simp only [rgM, hr, if_true, M.bind, M.pure] at hp
    by_cases hf : fitsL (rgD i j).length = true
    · simp only [hf, if_true] at hp
      have el : (rgD i j).length = (j - i).toNat := by simp [rgD]
      have hz : (rgD i j).length ≤ sizeLine := fitsL_ok hf
      rw [el, sizeLine_eq] at hz
      simp only [rgOk, Bool.and_eq_true, decide_eq_true_eq] at hr
      refine ⟨⟨hr.1.1.1, hr.1.1.2, hr.1.2, hr.2, hz⟩, fun q hq => ?_⟩
      obtain ⟨k1, k2, k3⟩ := (New.lst hq (rgV_rp (K := g.K) (H := W1.G) i j)).ok a1 s1
      exact hp _ k1 k2 _ k3
    · simp only [hf] at hp; exact hp.elim
  · simp only [rgM, hr, M.bind] at hp; exact hp.elim
theorem s_lstRg1 (hK : X.K = g.K) (hc : X.calm = true) (ht : Gl X "list") (hmt : X.mg "list" = none) (hg : Gl X "range") (hm : X.mg "range" = none) (ha : PE X a (rdE g E ma)) (hs : starEach [a] X.env = [(false, eval a X.env)]) {p2 pos2 : Pos} :
    PE X (.Call (.Name "list" p2) [.Call (.Name "range" p) [a] [] pos] [] pos2) (rdE g E (M.bind (M.bind ma fun r => M.bind (peek r) fun d => rgM (.int 0) d) fun w => if fitsL w.items.length then M.pure (.fr (.lst w.items)) else stuckM)) := by
  refine (pe_listRg hc ht hmt (prg_1 hg hm ha hs)).weaken fun σ H Q ⟨W, ρ, eH, so, hp⟩ => ?_
  subst eH
  rw [mb_assoc] at hp
  unfold tLstRg tRg1
  refine rd_bind (Ext.refl W) so hp fun x ρ1 W1 vx a1 b1 s1 rx hp => ?_
  rw [mb_assoc] at hp
  obtain ⟨dx, ex, hp⟩ := po_peek hp
  have rt := s1.cont rx ex
  cases dx with
  | int j =>
    cases rt.int
    exact ⟨j, rfl, lstRg_fin a1 s1 hp⟩
  | _ => exact hp.elim
theorem s_lstRg2 (hK : X.K = g.K) (hc : X.calm = true) (ht : Gl X "list") (hmt : X.mg "list" = none) (hg : Gl X "range") (hm : X.mg "range" = none) (ha : PE X a (rdE g E ma)) (hb : PE X b (rdE g E mb)) (hs : starEach [a, b] X.env = [(false, eval a X.env), (false, eval b X.env)]) (hs2 : starEach [b] X.env = [(false, eval b X.env)]) {p2 pos2 : Pos} :
    PE X (.Call (.Name "list" p2) [.Call (.Name "range" p) [a, b] [] pos] [] pos2) (rdE g E (M.bind (bin2 ma mb rgM) fun w => if fitsL w.items.length then M.pure (.fr (.lst w.items)) else stuckM)) := by
  refine (pe_listRg hc ht hmt (prg_2 hg hm ha hb (by rw [hs, hs2]) hs2 (by rw [hs2]; rfl))).weaken fun σ H Q ⟨W, ρ, eH, so, hp⟩ => ?_
  subst eH
  unfold bin2 at hp
  rw [mb_assoc] at hp
  unfold tLstRg tRg2
  refine rd_bind (Ext.refl W) so hp fun x ρ1 W1 vx a1 b1 s1 rx hp => ?_
  rw [mb_assoc] at hp
  refine rd_bind a1 s1 hp fun y ρ2 W2 vy a2 b2 s2 ry hp => ?_
  rw [mb_assoc] at hp
  obtain ⟨dx, ex, hp⟩ := po_peek hp
  rw [mb_assoc] at hp
  obtain ⟨dy, ey, hp⟩ := po_peek hp
  have rx' := s2.cont (rx.ext a1 b2) ex
  have ry' := s2.cont ry ey
  cases dx with
  | int i =>
    cases dy with
    | int j =>
      cases rx'.int
      cases ry'.int
      exact ⟨i, j, rfl, rfl, lstRg_fin a2 s2 hp⟩
    | _ => exact hp.elim
  | _ => exact hp.elim
end
end PV
set_option Elab.async false
set_option linter.all false
set_option autoImplicit false
set_option maxRecDepth 100000
set_option maxHeartbeats 1000000
/-! PV: targets, comprehensions. -/
namespace PV
open PySem PySem.Spec PyProof.Rows L2
section
variable {g : Gh} {E : WX} {W W0 W1 : Wd} {σ : L2.St} {ρ : List Slot}
theorem set_cases {α : Type} {l : List α} {i j : Nat} {a s : α} (h : (l.set i a)[j]? = some s) : (j = i ∧ s = a) ∨ (j ≠ i ∧ l[j]? = some s) := by
  by_cases e : i = j
  · subst e
    have hi : i < l.length := by
      have := (List.getElem?_eq_some_iff.mp h).1
      simpa using this
    rw [List.getElem?_set_self hi] at h
    exact .inl ⟨rfl, (Option.some.inj h).symm⟩
  · rw [List.getElem?_set_ne e] at h
    exact .inr ⟨fun z => e z.symm, h⟩
theorem set_lt {α : Type} {l : List α} {i j : Nat} {a s : α} (h : (l.set i a)[j]? = some s) : j < l.length := by
  have := (List.getElem?_eq_some_iff.mp h).1
  simpa using this
/-- other slots, of which some say nothing -/
theorem so_sub {σ' : L2.St} {ρ' : List Slot} (so : SO g W σ ρ) (len : ρ'.length = σ'.length) (h : ∀ (j : Nat) (s : Slot), ρ'[j]? = some s → (∃ d v, s = .val d ∧ σ'[j]? = some (some v) ∧ Rp g.K W.G v d) ∨ s = .non ∨ (ρ[j]? = some s ∧ σ'[j]? = σ[j]?) ∨ (∃ t v, s = .st t ∧ σ'[j]? = some (some v) ∧ StOk g.K g.mg W.G v t)) : SO g W σ' ρ' := by
  refine ⟨so.gh, so.og, so.bt, len, fun j s hj => ?_, fun j l x y m1 m2 z h1 h2 h3 h4 => ?_⟩
  · rcases h j s hj with ⟨d, v, e, k1, k2⟩ | e | ⟨k1, k2⟩ | ⟨t, v, e, k1, k2⟩
    · subst e; exact ⟨v, k1, k2⟩
    · subst e; trivial
    · rw [k2]; exact so.slots j s k1
    · subst e; exact ⟨v, k1, k2⟩
  · have n : ∀ {t : Nat} {x : Option Nat} {m1 : Mv}, ρ'[t]? = some (.own x m1) → ρ[t]? = some (.own x m1) ∧ σ'[t]? = σ[t]? := fun {t x m1} ht => by
      rcases h t _ ht with ⟨d, v, e, _, _⟩ | e | k | ⟨d, v, e, _, _⟩
      · cases e
      · cases e
      · exact k
      · cases e
    exact so.inj j l x y m1 m2 z (n h1).1 (n h2).1 (by rw [← (n h1).2]; exact h3) (by rw [← (n h2).2]; exact h4)
theorem so_putS {i : Nat} {v : V} {t : Still} (so : SO g W σ ρ) (h : StOk g.K g.mg W.G v t) : SO g W (σ.set i (some v)) (ρ.set i (.st t)) := by
  refine so_sub so (by simpa using so.len) fun j s hj => ?_
  have lt := set_lt hj
  rcases set_cases hj with ⟨e1, e2⟩ | ⟨e1, e2⟩
  · subst e1 e2
    exact .inr (.inr (.inr ⟨t, v, rfl, List.getElem?_set_self (by rw [← so.len]; exact lt), h⟩))
  · exact .inr (.inr (.inl ⟨e2, List.getElem?_set_ne (fun z => e1 z.symm)⟩))
theorem so_put {i : Nat} {v : V} {d : D} (so : SO g W σ ρ) (h : Rp g.K W.G v d) : SO g W (σ.set i (some v)) (ρ.set i (.val d)) := by
  refine so_sub so (by simpa using so.len) fun j s hj => ?_
  have lt := set_lt hj
  rcases set_cases hj with ⟨e1, e2⟩ | ⟨e1, e2⟩
  · subst e1 e2
    exact .inl ⟨d, v, rfl, List.getElem?_set_self (by rw [← so.len]; exact lt), h⟩
  · exact .inr (.inr (.inl ⟨e2, List.getElem?_set_ne (fun z => e1 z.symm)⟩))
/-- a new thing is one's own -/
def Wd.take (W : Wd) (p : Addr) : Wd := ⟨W.H, W.G, fun b => W.O b ∨ b = p⟩
theorem so_own {i : Nat} {m : Mv} {p : Addr} (so : SO g W σ ρ) (b0 : g.B p = none) (no : ¬ W.O p) (gp : W.G p = none) (ok : MvOk g.K W p m) : SO g (W.take p) (σ.set i (some (.ref p))) (ρ.set i (.own none m)) := by
  have keep : ∀ {m : Mv} {q : Addr}, MvOk g.K W q m → MvOk g.K (W.take p) q m := fun {m q} h => by cases m <;> exact h
  refine ⟨so.gh, fun q h => ?_, so.bt, by simpa using so.len, fun j s hj => ?_, fun j l x y m1 m2 z h1 h2 h3 h4 => ?_⟩
  · rcases h with h | h
    · exact so.og q h
    · subst h; exact ⟨gp, ok.some⟩
  · have lt := set_lt hj
    rcases set_cases hj with ⟨e1, e2⟩ | ⟨e1, e2⟩
    · subst e1 e2
      exact ⟨p, List.getElem?_set_self (by rw [← so.len]; exact lt), .inr rfl, keep ok, b0⟩
    · have := so.slots j s e2
      rw [← List.getElem?_set_ne (a := some (V.ref p)) (l := σ) (fun z => e1 z.symm)] at this
      cases s with
      | non => trivial
      | val d => exact this
      | st t => exact this
      | own pin m' => obtain ⟨q, k1, k2, k3, k4⟩ := this; exact ⟨q, k1, .inl k2, keep k3, k4⟩
  · have other : ∀ {t : Nat} {x : Option Nat} {m1 : Mv}, t ≠ i → ρ[t]? = some (.own x m1) → σ[t]? ≠ some (some (.ref p)) := fun {t x m1} _ ht hs => by
      obtain ⟨q, k1, k2, _⟩ := so.slots t _ ht
      rw [hs] at k1
      cases k1
      exact no k2
    rcases set_cases h1 with ⟨e1, e2⟩ | ⟨e1, e2⟩
    · subst e1
      rcases set_cases h2 with ⟨e3, e4⟩ | ⟨e3, e4⟩
      · exact e3.symm
      · rw [List.getElem?_set_ne (fun z => e3 z.symm)] at h4
        rw [List.getElem?_set_self (by rw [← so.len]; exact set_lt h1)] at h3
        cases h3
        exact absurd h4 (other e3 e4)
    · rw [List.getElem?_set_ne (fun z => e1 z.symm)] at h3
      rcases set_cases h2 with ⟨e3, e4⟩ | ⟨e3, e4⟩
      · subst e3
        rw [List.getElem?_set_self (by rw [← so.len]; exact set_lt h2)] at h4
        cases h4
        exact absurd h3 (other e1 e2)
      · rw [List.getElem?_set_ne (fun z => e3 z.symm)] at h4
        exact so.inj j l x y m1 m2 z e2 e4 h3 h4
theorem take_ext {p : Addr} (a : Ext W0 W) (h0 : W0.H p = none) : Ext W0 (W.take p) := ⟨a.fz, a.fr, fun q h => h.elim (a.ow q) fun e => .inr (e ▸ h0), a.gn, a.tr⟩
/-! ### targets -/
def tgIx : Tg → List Nat
  | .nm i => [i]
  | .tup is => is
  | .str is j => is ++ [j]
def PoG (g : Gh) (F : List Nat) (W : Wd) (σ : L2.St) (Q : L2.St → Hp → Prop) : Res Unit → Prop
  | .ok _ ρ' => ∀ W' σ', Ext W W' → SO g W' σ' ρ' → (∀ j, j ∉ F → σ'[j]? = σ[j]?) → σ'.length = σ.length → Q σ' W'.H
  | _ => False
def rdG (g : Gh) (tg : Tg) : TG := fun v σ H Q => ∃ W ρ d, W.H = H ∧ SO g W σ ρ ∧ Rp g.K W.G v d ∧ PoG g (tgIx tg) W σ Q (putT tg d ρ)
def rdGs (g : Gh) (is : List Nat) : TGs := fun vs σ H Q => ∃ W ρ ds, W.H = H ∧ SO g W σ ρ ∧ RpAll g.K W.G vs ds ∧ PoG g is W σ Q (putAll is ds ρ)
theorem store_val {i : Nat} {d : D} : store i (.val d) ρ = if isPin ρ[i]? then .stuck else .ok () (ρ.set i (.val d)) := by
  unfold store
  simp only [frz]
  split <;> rfl
theorem set_other {α : Type} {l : List α} {i j : Nat} {a : α} (h : j ∉ [i]) : (l.set i a)[j]? = l[j]? := List.getElem?_set_ne fun e => h (by rw [e]; exact List.mem_singleton_self _)
end
theorem _root_.L2.PG.weaken {X : Cx} {e : Expr} {t t' : TG} (h : PG X e t) (w : ∀ v σ H Q, t' v σ H Q → t v σ H Q) : PG X e t' := ⟨fun pins s σ H v u Q I r q => h.run pins s σ H v u Q I r (w _ _ _ _ q)⟩
theorem _root_.L2.PGs.weaken {X : Cx} {e : List Expr} {t t' : TGs} (h : PGs X e t) (w : ∀ v σ H Q, t' v σ H Q → t v σ H Q) : PGs X e t' := ⟨fun pins s σ H v u Q I r q => h.run pins s σ H v u Q I r (w _ _ _ _ q)⟩
section
variable {X : Cx} {g : Gh} {E : WX} {e : Expr} {es : List Expr} {i : Nat} {is : List Nat} {pos : Pos}
theorem s_gnm (h : PG X e (gName i)) : PG X e (rdG g (.nm i)) := by
  refine h.weaken fun v σ H Q ⟨W, ρ, d, eH, so, rp, hp⟩ => ?_
  subst eH
  have hp : PoG g (tgIx (.nm i)) W σ Q (store i (.val d) ρ) := hp
  rw [store_val] at hp
  split at hp
  · exact hp.elim
  · exact hp W _ (Ext.refl W) (so_put so rp) (fun j hj => set_other hj) (by simp)
theorem s_gsnil : PGs X [] (rdGs g []) := by
  refine pgs_nil.weaken fun vs σ H Q ⟨W, ρ, ds, eH, so, rp, hp⟩ => ?_
  subst eH
  cases ds with
  | nil => cases rp; exact ⟨rfl, hp W σ (Ext.refl W) so (fun _ _ => rfl) rfl⟩
  | cons d ds => exact hp.elim
theorem s_gscons (h : PG X e (gName i)) (hr : PGs X es (rdGs g is)) (hs : (assignEach (e :: es) X.env).map (·.2) = assign e X.env :: (assignEach es X.env).map (·.2)) : PGs X (e :: es) (rdGs g (i :: is)) := by
  refine (pgs_cons h hr hs).weaken fun vs σ H Q ⟨W, ρ, ds, eH, so, rp, hp⟩ => ?_
  subst eH
  cases ds with
  | nil => exact hp.elim
  | cons d ds =>
    cases rp with
    | cons r rr =>
      unfold putAll M.bind at hp
      rw [store_val] at hp
      by_cases z : isPin ρ[i]? = true
      · simp only [z, if_true] at hp; exact hp.elim
      · simp only [z] at hp
        refine ⟨_, _, rfl, W, ρ.set i (.val d), ds, rfl, so_put so r, rr, ?_⟩
        have hp : PoG g (i :: is) W σ Q (putAll is ds (ρ.set i (.val d))) := hp
        revert hp
        cases putAll is ds (ρ.set i (.val d)) with
        | ok u ρ' => exact fun hp W' σ' a so' f l => hp W' σ' a so' (fun j hj => by rw [f j (fun z => hj (List.mem_cons_of_mem _ z)), List.getElem?_set_ne (fun z => hj (by rw [z]; exact List.mem_cons_self ..))]) (by simpa using l)
        | exc _ _ => exact fun hp => hp
        | stuck => exact fun hp => hp
theorem pl_len {Q : L2.St → Hp → Prop} : ∀ {is : List Nat} {ds : List D} {ρ : List Slot} {σ : L2.St} {F : List Nat} {W : Wd}, PoG g F W σ Q (putAll is ds ρ) → ds.length = is.length := by
  intro is
  induction is with
  | nil => intro ds ρ σ F W hp; cases ds with | nil => rfl | cons _ _ => exact hp.elim
  | cons i is ih =>
    intro ds ρ σ F W hp
    cases ds with
    | nil => exact hp.elim
    | cons d ds =>
      unfold putAll M.bind at hp
      rw [store_val] at hp
      by_cases z : isPin ρ[i]? = true
      · simp only [z, if_true] at hp; exact hp.elim
      · simp only [z] at hp; simp [ih (ρ := ρ.set i (.val d)) hp]
/-- several names take what a tuple or a list holds -/
def rdGt (g : Gh) (T : Tg) : TG := fun v σ H Q => ∃ W ρ d, W.H = H ∧ SO g W σ ρ ∧ Rt g.K W v d ∧ PoG g (tgIx T) W σ Q (putT T d ρ)
theorem s_gtupT {k n : Nat} (hK : X.K = g.K) (hc : X.calm = true) (h : PGs X es (rdGs g is)) (hn : (assignEach es X.env).length = n) (hst : (assignEach es X.env).findIdx? (·.1) = none) (hl : is.length = n) : PG X (.Tuple es k pos) (rdGt g (.tup is)) := by
  refine ⟨fun pins s σ H v u Q I r q => ?_⟩
  obtain ⟨W, ρ, d, eH, so, rt, hp⟩ := q
  subst eH
  cases d with
  | tuple ds =>
    refine (pg_tup hc h hn hst).run pins s σ _ v u Q I r ?_
    obtain ⟨a, vs, e1, h1, r1⟩ := rt.tup
    rw [hK]
    exact ⟨a, vs, e1, seqT_mono so.gh h1, by rw [r1.length, pl_len hp, hl], W, ρ, ds, rfl, so, r1, hp⟩
  | list ds =>
    refine (pg_lst hc h hn hst).run pins s σ _ v u Q I r ?_
    obtain ⟨a, vs, e1, h1, r1⟩ := rt.lst
    rw [hK]
    exact ⟨a, vs, e1, h1.sq, by rw [r1.length, pl_len hp, hl], W, ρ, ds, rfl, so, r1, hp⟩
  | _ => exact hp.elim
theorem s_gtup {k n : Nat} (hK : X.K = g.K) (hc : X.calm = true) (h : PGs X es (rdGs g is)) (hn : (assignEach es X.env).length = n) (hst : (assignEach es X.env).findIdx? (·.1) = none) (hl : is.length = n) : PG X (.Tuple es k pos) (rdG g (.tup is)) :=
  (s_gtupT hK hc h hn hst hl).weaken fun v σ H Q ⟨W, ρ, d, eH, so, rp, hp⟩ => ⟨W, ρ, d, eH, so, .of_rp so.gh rp, hp⟩
end
/-! ### comprehensions: the block's own names -/
section
theorem wipeS_length (ρ : List Slot) (is : List Nat) : (wipeS ρ is).length = ρ.length := by
  unfold wipeS
  induction is generalizing ρ with
  | nil => rfl
  | cons i is ih => simp only [List.foldl_cons]; rw [ih, List.length_set]
theorem wipeS_out {ρ : List Slot} {is : List Nat} {j : Nat} (h : j ∉ is) : (wipeS ρ is)[j]? = ρ[j]? := by
  unfold wipeS
  induction is generalizing ρ with
  | nil => rfl
  | cons i is ih =>
    simp only [List.foldl_cons]
    rw [ih (fun z => h (List.mem_cons_of_mem _ z)), List.getElem?_set_ne (fun z => h (by rw [z]; exact List.mem_cons_self ..))]
theorem wipeS_in {ρ : List Slot} {is : List Nat} {j : Nat} {s : Slot} (h : j ∈ is) (e : (wipeS ρ is)[j]? = some s) : s = .non := by
  unfold wipeS at e
  induction is generalizing ρ with
  | nil => cases h
  | cons i is ih =>
    simp only [List.foldl_cons] at e
    by_cases z : j ∈ is
    · exact ih z e
    · have hj : j = i := by
        rcases List.mem_cons.mp h with h | h
        · exact h
        · exact absurd h z
      subst hj
      have e : (wipeS (ρ.set j .non) is)[j]? = some s := e
      rw [wipeS_out z] at e
      rcases set_cases e with ⟨_, k⟩ | ⟨k, _⟩
      · exact k
      · exact absurd rfl k
theorem wipe_out {σ : L2.St} {vs : List Nat} {j : Nat} (h : j ∉ vs) : (wipe σ vs)[j]? = σ[j]? := by
  induction vs with
  | nil => rfl
  | cons i vs ih =>
    show ((wipe σ vs).set i none)[j]? = _
    rw [List.getElem?_set_ne (fun z => h (by rw [z]; exact List.mem_cons_self ..)), ih (fun z => h (List.mem_cons_of_mem _ z))]
theorem wipe_in {σ : L2.St} {vs : List Nat} {j : Nat} (h : j ∈ vs) (hl : j < σ.length) : (wipe σ vs)[j]? = some none := by
  induction vs with
  | nil => cases h
  | cons i vs ih =>
    show ((wipe σ vs).set i none)[j]? = _
    by_cases e : i = j
    · subst e
      exact List.getElem?_set_self (by rw [wipe_length]; exact hl)
    · rw [List.getElem?_set_ne e]
      rcases List.mem_cons.mp h with h | h
      · exact absurd h.symm e
      · exact ih h
theorem wipe_eq {σ σ2 : L2.St} {vs : List Nat} (hl : σ2.length = σ.length) (h : ∀ j, j ∉ vs → σ2[j]? = σ[j]?) : wipe σ2 vs = wipe σ vs := by
  refine List.ext_getElem? fun j => ?_
  by_cases z : j ∈ vs
  · by_cases hj : j < σ.length
    · rw [wipe_in z hj, wipe_in z (by rw [hl]; exact hj)]
    · rw [List.getElem?_eq_none (by rw [wipe_length]; omega), List.getElem?_eq_none (by rw [wipe_length]; omega)]
  · rw [wipe_out z, wipe_out z, h j z]
theorem backS_length (ρ0 ρ : List Slot) (is : List Nat) : (backS ρ0 ρ is).length = ρ.length := by
  unfold backS
  induction is generalizing ρ with
  | nil => rfl
  | cons i is ih =>
    simp only [List.foldl_cons]
    rw [ih]
    split
    · rw [List.length_set]
    · rfl
theorem backS_out {ρ0 ρ : List Slot} {is : List Nat} {j : Nat} (h : j ∉ is) : (backS ρ0 ρ is)[j]? = ρ[j]? := by
  unfold backS
  induction is generalizing ρ with
  | nil => rfl
  | cons i is ih =>
    simp only [List.foldl_cons]
    rw [ih (fun z => h (List.mem_cons_of_mem _ z))]
    split
    · rw [List.getElem?_set_ne (fun z => h (by rw [z]; exact List.mem_cons_self ..))]
    · rfl
theorem backS_in {ρ0 ρ : List Slot} {is : List Nat} {j : Nat} {s : Slot} (hl : ρ.length = ρ0.length) (h : j ∈ is) (e : (backS ρ0 ρ is)[j]? = some s) : ρ0[j]? = some s := by
  unfold backS at e
  induction is generalizing ρ with
  | nil => cases h
  | cons i is ih =>
    simp only [List.foldl_cons] at e
    by_cases z : j ∈ is
    · refine ih ?_ z e
      split
      · rw [List.length_set]; exact hl
      · exact hl
    · have hj : j = i := by
        rcases List.mem_cons.mp h with h | h
        · exact h
        · exact absurd h z
      subst hj
      cases q : ρ0[j]? with
      | none =>
        simp only [q] at e
        have e : (backS ρ0 ρ is)[j]? = some s := e
        rw [backS_out z] at e
        have := (List.getElem?_eq_some_iff.mp e).1
        have := List.getElem?_eq_none_iff.mp q
        omega
      | some s0 =>
        simp only [q] at e
        have e : (backS ρ0 (ρ.set j s0) is)[j]? = some s := e
        rw [backS_out z] at e
        rcases set_cases e with ⟨_, k⟩ | ⟨k, _⟩
        · rw [k]
        · exact absurd rfl k
variable {g : Gh} {E : WX} {W W0 W1 : Wd} {σ : L2.St} {ρ : List Slot} {vs : List Nat}
theorem so_wipe (so : SO g W σ ρ) : SO g W (wipe σ vs) (wipeS ρ vs) := by
  refine so_sub so (by rw [wipeS_length, wipe_length]; exact so.len) fun j s hj => ?_
  by_cases z : j ∈ vs
  · exact .inr (.inl (wipeS_in z hj))
  · rw [wipeS_out z] at hj
    exact .inr (.inr (.inl ⟨hj, wipe_out z⟩))
/-- the same with slots that the block has set -/
theorem so_wipe2 {σ2 : L2.St} (so : SO g W σ2 ρ) (e : wipe σ2 vs = wipe σ vs) : SO g W (wipe σ vs) (wipeS ρ vs) := e ▸ so_wipe so
theorem so_back {ρ0 : List Slot} (a : Ext W0 W) (s0 : SO g W0 σ ρ0) (so : SO g W (wipe σ vs) ρ) (fr : ownFree ρ0 vs = true) : SO g W σ (backS ρ0 ρ vs) := by
  have hl : ρ.length = ρ0.length := by rw [so.len, wipe_length, s0.len]
  refine so_sub so (by rw [backS_length, so.len, wipe_length]) fun j s hj => ?_
  by_cases z : j ∈ vs
  · have h0 := backS_in hl z hj
    have f := List.all_eq_true.mp fr j z
    rw [h0] at f
    cases s with
    | non => exact .inr (.inl rfl)
    | val d => obtain ⟨v, k1, k2⟩ := s0.slots j _ h0; exact .inl ⟨d, v, rfl, k1, Rp.mono a.fz k2⟩
    | st t => obtain ⟨v, k1, k2⟩ := s0.slots j _ h0; exact .inr (.inr (.inr ⟨t, v, rfl, k1, StOk.mono a.fz k2⟩))
    | own pin m => cases f
  · rw [backS_out z] at hj
    exact .inr (.inr (.inl ⟨hj, (wipe_out z).symm⟩))
/-- a new thing changes -/
theorem upd_new {D0 : Addr} {o o' : HO} (a : Ext W1 W) (h1 : W1.H D0 = none) (no : ¬ W.O D0) (gp : W.G D0 = none) (hD : W.H D0 = some o) (so : SO g W σ ρ) : Ext W1 ⟨upd W.H D0 o', W.G, W.O⟩ ∧ SO g ⟨upd W.H D0 o', W.G, W.O⟩ σ ρ := by
  have ne : ∀ q, W1.H q ≠ none → q ≠ D0 := fun q h e => h (e ▸ h1)
  have tr : ∀ q, W.H q ≠ none → upd W.H D0 o' q ≠ none := fun q h => by
    unfold upd
    split
    · simp
    · exact h
  refine ⟨⟨a.fz, fun p x e n => ?_, a.ow, a.gn, fun p h => tr p (a.tr p h)⟩, ⟨fun b x e => ?_, fun b h => ⟨(so.og b h).1, tr b (so.og b h).2⟩, fun b h => tr b (so.bt b h), so.len, fun j s hj => ?_, so.inj⟩⟩
  · show upd W.H D0 o' p = some x
    rw [upd_ne (ne p (by rw [e]; simp))]
    exact a.fr p x e n
  · have : b ≠ D0 := fun z => by rw [z] at e; have e : W.G D0 = some x := e; rw [gp] at e; cases e
    show upd W.H D0 o' b = some x
    rw [upd_ne this]
    exact so.gh b x e
  · have := so.slots j s hj
    cases s with
    | non => trivial
    | val d => exact this
    | st t => exact this
    | own pin m =>
      obtain ⟨q, k1, k2, k3, k4⟩ := this
      have nq : q ≠ D0 := fun z => no (z ▸ k2)
      refine ⟨q, k1, k2, ?_, k4⟩
      cases m with
      | lst xs => obtain ⟨us, l1, l2⟩ := k3; exact ⟨us, by show upd W.H D0 o' q = _; rw [upd_ne nq]; exact l1, l2⟩
      | dct xs => obtain ⟨us, l1, l2⟩ := k3; exact ⟨us, by show upd W.H D0 o' q = _; rw [upd_ne nq]; exact l1, l2⟩
end
end PV
set_option Elab.async false
set_option linter.all false
set_option autoImplicit false
set_option maxRecDepth 100000
set_option maxHeartbeats 1000000
/-! PV: targets with a star. -/
namespace PV
open PySem PySem.Spec PyProof.Rows L2
@[simp] theorem put_nm {i : Nat} {d : D} : putT (.nm i) d = store i (.val d) := by unfold putT; cases d <;> rfl
theorem put_stq {is : List Nat} {j : Nat} {ds : List D} : putT (.str is j) (.tuple ds) = if is.length ≤ ds.length then putAll (is ++ [j]) (ds.take is.length ++ [.list (ds.drop is.length)]) else stuckM := by rw [putT]
theorem put_slq {is : List Nat} {j : Nat} {ds : List D} : putT (.str is j) (.list ds) = if is.length ≤ ds.length then putAll (is ++ [j]) (ds.take is.length ++ [.list (ds.drop is.length)]) else stuckM := by rw [putT]
theorem putAll_noexc : ∀ {is : List Nat} {ds : List D} {ρ ρ' : List Slot} {x : Exn}, putAll is ds ρ = .exc x ρ' → False
  | [], [], _, _, _, h => by cases h
  | [], _ :: _, _, _, _, h => by cases h
  | _ :: _, [], _, _, _, h => by cases h
  | i :: is, d :: ds, ρ, ρ', x, h => by
    unfold putAll M.bind at h
    rw [store_val] at h
    by_cases z : isPin ρ[i]? = true
    · simp only [z, if_true] at h; cases h
    · simp only [z] at h; exact putAll_noexc h
theorem putT_noexc {t : Tg} {d : D} {ρ ρ' : List Slot} {x : Exn} (h : putT t d ρ = .exc x ρ') : False := by
  cases t with
  | nm i =>
    rw [put_nm, store_val] at h
    by_cases z : isPin ρ[i]? = true
    · simp only [z, if_true] at h; cases h
    · simp only [z] at h; cases h
  | tup is =>
    cases d with
    | tuple ds => exact putAll_noexc h
    | list ds => exact putAll_noexc h
    | _ => cases h
  | str is j =>
    cases d with
    | tuple ds =>
      rw [put_stq] at h
      by_cases z : is.length ≤ ds.length
      · rw [if_pos z] at h; exact putAll_noexc h
      · rw [if_neg z] at h; cases h
    | list ds =>
      rw [put_slq] at h
      by_cases z : is.length ≤ ds.length
      · rw [if_pos z] at h; exact putAll_noexc h
      · rw [if_neg z] at h; cases h
    | _ => cases h
section
variable {P : Program} {w : World} {A : Around} {E : Value → Shared → Prop} {s : Shared} {l : Addr} {items : Array Value} {n i : Nat} {Q : List Value → Shared → Prop}
theorem un_starT (hl : IsTup s.heap l items) (hh : A.handled = none) (hi : i < n) (hn : n ≤ items.size + 1) (hz : items.size ≤ sizeLine)
    (h : ∀ (h' : Heap) (tk : Nat), (∀ b o, s.heap.get? b = some o → h'.get? b = some o) → Q (items.toList.take i ++ [.ref h'.objs.size] ++ (items.toList.drop i).drop (items.size + 1 - n)) { s with heap := h'.push (seqObj "list" ((items.toList.drop i).take (items.size + 1 - n)).toArray 0), toks := tk }) :
    wpAny (model P w) A (unpackItems (.ref l) n (some i)) Q E s := by
  have hlt : l ≠ s.heap.objs.size := by obtain ⟨o, ho, _⟩ := hl; exact Nat.ne_of_lt (Heap.lt_size ho)
  have hll : l < s.heap.objs.size := by obtain ⟨o, ho, _⟩ := hl; exact Heap.lt_size ho
  unfold unpackItems
  refine wpAny_bind ?_
  unfold notIterableAtAll
  refine wpAny_bind (wpAny_specialOf hl.typeIs slot_tuple_iter.lookup ?_)
  refine wpAny_pure ?_
  simp only [Bool.false_eq_true, if_false]
  refine wpAny_bind (wpAny_holding (iter_tuple hl ?_))
  refine wpAny_bind (wpAny_holding (draw_tuple hlt i 0 _ _ ⟨_, Heap.get?_push_size _ rfl, rfl, rfl⟩ (hl.push _) (by omega) fun h₁ hit₁ hs₁ => ?_))
  have hl₁ : IsTup h₁ l items := (hl.push _).extBut hs₁.extBut hlt
  rw [Nat.zero_add] at hit₁
  have hit₁' := hit₁
  obtain ⟨oi, hoi, _⟩ := hit₁'
  have hl₁' := hl₁
  obtain ⟨ol, hol, _⟩ := hl₁'
  rw [List.drop_zero]
  have hfl : (items.toList.take i).length = i := by rw [List.length_take, Array.length_toList]; omega
  rw [if_neg (show ¬ ((items.toList.take i).length < i) by rw [hfl]; omega)]
  refine wpAny_bind (wpAny_holding (PySem.W.kun_collect (s := { s with heap := h₁ }) (T := "tuple_iterator") (.inr (.inr (.inr rfl))) (Walks.tuple (A := A.in1) hh s.heap.objs.size l hlt items) (fun j u st => st.1.typeIs) (k := i) (by omega) ⟨hit₁, hl₁⟩ (Heap.lt_size hoi) (Heap.lt_size hol) (fun h₂ tk hk => ?_) hz))
  have hrl : (items.toList.drop i).length = items.size - i := by rw [List.length_drop, Array.length_toList]
  have hmid : (items.toList.drop i).length - (n - 1 - i) = items.size + 1 - n := by rw [hrl]; omega
  show wpAny _ _ (if (items.toList.drop i).length < n - 1 - i then _ else _) _ _ _
  rw [if_neg (by rw [hrl]; omega)]
  show wpAny _ _ (newList ((items.toList.drop i).take ((items.toList.drop i).length - (n - 1 - i))) >>= fun d => pure (items.toList.take i ++ [d] ++ (items.toList.drop i).drop ((items.toList.drop i).length - (n - 1 - i)))) _ _ _
  rw [hmid]
  have he : ∀ b o, s.heap.get? b = some o → h₂.get? b = some o := fun b o e => hk b o (Nat.ne_of_lt (Heap.lt_size e)) (hs₁.extBut b o (Nat.ne_of_lt (Heap.lt_size e)) (Heap.get?_push_of_some _ e))
  exact wpAny_bind (wpAny_newList (s := { s with heap := h₂, toks := tk }) (wpAny_pure (h h₂ tk he)) (by rw [List.length_take, hrl]; omega))
theorem un_starL (hl : s.heap.IsList l items) (hh : A.handled = none) (hi : i < n) (hn : n ≤ items.size + 1) (hz : items.size ≤ sizeLine)
    (h : ∀ (h' : Heap) (tk : Nat), (∀ b o, s.heap.get? b = some o → h'.get? b = some o) → Q (items.toList.take i ++ [.ref h'.objs.size] ++ (items.toList.drop i).drop (items.size + 1 - n)) { s with heap := h'.push (seqObj "list" ((items.toList.drop i).take (items.size + 1 - n)).toArray 0), toks := tk }) :
    wpAny (model P w) A (unpackItems (.ref l) n (some i)) Q E s := by
  have hlt : l ≠ s.heap.objs.size := by obtain ⟨o, ho, _⟩ := hl; exact Nat.ne_of_lt (Heap.lt_size ho)
  have hll : l < s.heap.objs.size := by obtain ⟨o, ho, _⟩ := hl; exact Heap.lt_size ho
  unfold unpackItems
  refine wpAny_bind ?_
  unfold notIterableAtAll
  refine wpAny_bind (wpAny_specialOf hl.typeIs PySem.F.slot_list_iter.lookup ?_)
  refine wpAny_pure ?_
  simp only [Bool.false_eq_true, if_false]
  refine wpAny_bind (wpAny_holding (wpAny_pyIter_list hl ?_))
  refine wpAny_bind (wpAny_holding (PySem.W.kun_draw hlt i 0 _ _ ⟨_, Heap.get?_push_size _ rfl, rfl, rfl⟩ (hl.push _) (by omega) fun h₁ hit₁ hs₁ => ?_))
  have hl₁ : h₁.IsList l items := (hl.push _).extBut hs₁.extBut hlt
  rw [Nat.zero_add] at hit₁
  have hit₁' := hit₁
  obtain ⟨oi, hoi, _⟩ := hit₁'
  have hl₁' := hl₁
  obtain ⟨ol, hol, _⟩ := hl₁'
  rw [List.drop_zero]
  have hfl : (items.toList.take i).length = i := by rw [List.length_take, Array.length_toList]; omega
  rw [if_neg (show ¬ ((items.toList.take i).length < i) by rw [hfl]; omega)]
  refine wpAny_bind (wpAny_holding (PySem.W.kun_collect (s := { s with heap := h₁ }) (T := "list_iterator") (.inr (.inr (.inl rfl))) (Walks.list (A := A.in1) hh s.heap.objs.size l hlt items) (fun j u st => st.1.typeIs) (k := i) (by omega) ⟨hit₁, hl₁⟩ (Heap.lt_size hoi) (Heap.lt_size hol) (fun h₂ tk hk => ?_) hz))
  have hrl : (items.toList.drop i).length = items.size - i := by rw [List.length_drop, Array.length_toList]
  have hmid : (items.toList.drop i).length - (n - 1 - i) = items.size + 1 - n := by rw [hrl]; omega
  show wpAny _ _ (if (items.toList.drop i).length < n - 1 - i then _ else _) _ _ _
  rw [if_neg (by rw [hrl]; omega)]
  show wpAny _ _ (newList ((items.toList.drop i).take ((items.toList.drop i).length - (n - 1 - i))) >>= fun d => pure (items.toList.take i ++ [d] ++ (items.toList.drop i).drop ((items.toList.drop i).length - (n - 1 - i)))) _ _ _
  rw [hmid]
  have he : ∀ b o, s.heap.get? b = some o → h₂.get? b = some o := fun b o e => hk b o (Nat.ne_of_lt (Heap.lt_size e)) (hs₁.extBut b o (Nat.ne_of_lt (Heap.lt_size e)) (Heap.get?_push_of_some _ e))
  exact wpAny_bind (wpAny_newList (s := { s with heap := h₂, toks := tk }) (wpAny_pure (h h₂ tk he)) (by rw [List.length_take, hrl]; omega))
end
section
variable {X : Cx} {g : Gh} {es : List Expr} {is : List Nat} {j : Nat} {pos : Pos}
theorem s_gstrT {k : Nat} (hK : X.K = g.K) (hc : X.calm = true) (h : PGs X es (rdGs g (is ++ [j]))) (hn : (assignEach es X.env).length = is.length + 1) (hst : (assignEach es X.env).findIdx? (·.1) = some is.length) : PG X (.Tuple es k pos) (rdGt g (.str is j)) := by
  refine ⟨fun pins s σ H v u Q I r q => ?_⟩
  obtain ⟨W, ρ, d, eH, so, rt, hp⟩ := q
  subst eH
  have go : ∀ {ds : List D} {vs : List V} {its : List Value} {h' : Heap} {tk : Nat}, RpAll g.K W.G vs ds → Vals vs its → its.length ≤ sizeLine → is.length ≤ ds.length → (∀ b o, s.heap.get? b = some o → h'.get? b = some o) →
      PoG g (is ++ [j]) W σ Q (putAll (is ++ [j]) (ds.take is.length ++ [.list (ds.drop is.length)]) ρ) →
      wpAny (model X.prog X.w) X.A (assignInOrder ((assignEach es X.env).map (·.2)) (its.toArray.toList.take is.length ++ [.ref h'.objs.size] ++ (its.toArray.toList.drop is.length).drop (its.toArray.size + 1 - (is.length + 1)))) (fun _ s' => ∃ σ' H', Inv X pins σ' H' s' ∧ Q σ' H') X.xe
        { s with heap := h'.push (seqObj "list" ((its.toArray.toList.drop is.length).take (its.toArray.size + 1 - (is.length + 1))).toArray 0), toks := tk } := by
    intro ds vs its h' tk rp rv hz hle hk hp
    have I1 : Inv X pins σ W.H { s with heap := h', toks := tk } := I.kept hk
    have hl : vs.length = ds.length := rp.length
    have hl2 : its.length = vs.length := rv.length.symm
    have e1 : (its.drop is.length).take (its.length - is.length) = its.drop is.length := List.take_of_length_le (by simp)
    have e2 : (its.drop is.length).drop (its.length - is.length) = [] := List.drop_eq_nil_of_le (by simp)
    have e3 : its.toArray.size + 1 - (is.length + 1) = its.length - is.length := by rw [List.size_toArray]; omega
    rw [e3]
    simp only [List.toList_toArray, e1, e2, List.append_nil]
    have hnone : W.H h'.objs.size = none := I1.hok.fresh (Nat.le_refl _)
    have I2 : Inv X pins σ (upd W.H h'.objs.size (.lst (vs.drop is.length))) { s with heap := h'.push (seqObj "list" (its.drop is.length).toArray 0), toks := tk } :=
      I1.laid (t' := tk) (fun b u e => Heap.get?_push_of_some _ e) (Nat.le_refl _)
        (show ObjOk X.prog X.w _ _ _ (.lst (vs.drop is.length)) from ⟨by rw [List.length_drop]; omega, its.drop is.length, 0, rv.drop _, Heap.get?_push_size _ rfl⟩)
    obtain ⟨so2, ex⟩ := so_upd (o := .lst (vs.drop is.length)) (fz := true) so hnone
    have rp2 := RpAll.mono ex.fz rp
    refine h.run pins _ σ _ (vs.take is.length ++ [V.ref h'.objs.size]) _ Q I2 ((rv.take _).append (.cons rfl .nil)) ⟨_, ρ, _, rfl, so2, (rp2.take is.length).append (.cons (.lst (.of ?_) (rp2.drop is.length)) .nil), ?_⟩
    · exact Wd.add_Gp
    · revert hp
      cases putAll (is ++ [j]) (ds.take is.length ++ [.list (ds.drop is.length)]) ρ with
      | ok u ρ' => exact fun hp W' σ' a so' f l => hp W' σ' (ex.trans a) so' f l
      | exc _ _ => exact fun hp => hp
      | stuck => exact fun hp => hp
  cases d with
  | tuple ds =>
    obtain ⟨a, vs, e1, h1, r1⟩ := rt.tup
    subst e1
    cases r
    obtain ⟨its, rv, ht, hz⟩ := I.tuple (a := a) (xs := vs) (by rw [hK]; exact seqT_mono so.gh h1)
    have hle : is.length ≤ ds.length ∧ PoG g (is ++ [j]) W σ Q (putAll (is ++ [j]) (ds.take is.length ++ [.list (ds.drop is.length)]) ρ) := by
      rw [put_stq] at hp
      by_cases z : is.length ≤ ds.length
      · rw [if_pos z] at hp; exact ⟨z, hp⟩
      · rw [if_neg z] at hp; exact hp.elim
    have hl : its.length = ds.length := by rw [← rv.length, r1.length]
    have hvl := rv.length
    rw [PyProof.Rows.assign_Tuple]
    refine wpAny_bind (wpAny_standAt ?_)
    unfold unpack
    rw [hn, hst]
    exact wpAny_bind (wpAny_holding (un_starT ht (I.ok.hd hc) (Nat.lt_succ_self _) (by rw [List.size_toArray]; omega) (by rw [List.size_toArray]; omega) fun h' tk hk => go r1 rv (by omega) hle.1 hk hle.2))
  | list ds =>
    obtain ⟨a, vs, e1, h1, r1⟩ := rt.lst
    subst e1
    cases r
    obtain ⟨its, rv, ht, hz⟩ := I.list (a := a) (xs := vs) (by rw [hK]; exact h1.sq)
    have hle : is.length ≤ ds.length ∧ PoG g (is ++ [j]) W σ Q (putAll (is ++ [j]) (ds.take is.length ++ [.list (ds.drop is.length)]) ρ) := by
      rw [put_slq] at hp
      by_cases z : is.length ≤ ds.length
      · rw [if_pos z] at hp; exact ⟨z, hp⟩
      · rw [if_neg z] at hp; exact hp.elim
    have hl : its.length = ds.length := by rw [← rv.length, r1.length]
    have hvl := rv.length
    rw [PyProof.Rows.assign_Tuple]
    refine wpAny_bind (wpAny_standAt ?_)
    unfold unpack
    rw [hn, hst]
    exact wpAny_bind (wpAny_holding (un_starL ht.isList (I.ok.hd hc) (Nat.lt_succ_self _) (by rw [List.size_toArray]; omega) (by rw [List.size_toArray]; omega) fun h' tk hk => go r1 rv (by omega) hle.1 hk hle.2))
  | _ => exact hp.elim
theorem s_gstr {k : Nat} (hK : X.K = g.K) (hc : X.calm = true) (h : PGs X es (rdGs g (is ++ [j]))) (hn : (assignEach es X.env).length = is.length + 1) (hst : (assignEach es X.env).findIdx? (·.1) = some is.length) : PG X (.Tuple es k pos) (rdG g (.str is j)) :=
  (s_gstrT hK hc h hn hst).weaken fun v σ H Q ⟨W, ρ, d, eH, so, rp, hp⟩ => ⟨W, ρ, d, eH, so, .of_rp so.gh rp, hp⟩
end
end PV
set_option Elab.async false
set_option linter.all false
set_option autoImplicit false
set_option maxRecDepth 100000
set_option maxHeartbeats 1000000
/-! PV: comprehensions. -/
namespace PV
open PySem PySem.Spec PyProof.Rows L2
def WF : WX := fun _ _ _ _ => False
section
variable {g : Gh} {E : WX} {W W0 W1 : Wd} {σ : L2.St} {ρ : List Slot} {α : Type} {J : It} {w : Walked}
theorem rd_bindI {m : M Walked} {f : Walked → M α} {K : α → Wd → Prop} {R : It → Hp → Prop} (a : Ext W0 W) (so : SO g W σ ρ) (h : Po g E W0 σ K (M.bind m f ρ))
    (k : ∀ w ρ1 W1 J, Ext W0 W1 → Ext W W1 → SO g W1 σ ρ1 → WalkOk g W1 σ J w → Po g E W0 σ K (f w ρ1) → R J W1.H) : rdI g E m σ W.H R := by
  refine ⟨W, ρ, rfl, so, ?_⟩
  unfold M.bind at h
  cases q : m ρ with
  | ok r ρ1 => rw [q] at h; exact fun W1 e1 s1 J wk => k r ρ1 W1 J (a.trans e1) e1 s1 wk h
  | exc e ρ1 => rw [q] at h; exact fun cls od W1 e1 s1 x => h cls od W1 (a.trans e1) s1 x
  | stuck => rw [q] at h; exact h
def WkG (g : Gh) (W1 : Wd) (σ : L2.St) (w : Walked) (H : Hp) : Prop := ∃ W2 σ2 ρ2, W2.H = H ∧ Ext W1 W2 ∧ SO g W2 σ2 ρ2 ∧ LK σ σ2 w ∧ lockOk ρ2 w.lock = true
def WkY (g : Gh) (W1 : Wd) (σ : L2.St) (w : Walked) (k : Nat) (H : Hp) (x : V) (H' : Hp) : Prop := ∀ W2 σ2 ρ2, W2.H = H → Ext W1 W2 → SO g W2 σ2 ρ2 → LK σ σ2 w → lockOk ρ2 w.lock = true →
  ∃ W3 d, W3.H = H' ∧ Ext W2 W3 ∧ SO g W3 σ2 ρ2 ∧ w.items[k]? = some d ∧ Rp g.K W3.G x d
theorem WalkOk.walk (wk : WalkOk g W1 σ J w) : Walk J w.items.length (WkG g W1 σ w) (WkY g W1 σ w) := by
  refine ⟨fun k H hk ⟨W2, σ2, ρ2, e, a, so, l, lo⟩ => ?_, fun H ⟨W2, σ2, ρ2, e, a, so, l, lo⟩ => ?_, fun k H x H' hk _ y W2 σ2 ρ2 e a so l lo => ?_⟩
  · subst e; exact wk.goes k W2 σ2 ρ2 hk a so l lo
  · subst e; exact wk.stops W2 σ2 ρ2 a so l lo
  · subst e; exact wk.yields k W2 σ2 ρ2 x H' hk a so l lo y
theorem frz_ok {r : Rv} {v : V} {y : D} {ρ3 : List Slot} (h : frz r ρ = .ok y ρ3) (a : Ext W0 W) (a1 : Ext W0 W1) (so : SO g W σ ρ) (rv : RvOk g W1 W σ v r) :
    ∃ W', Ext W0 W' ∧ W'.H = W.H ∧ SO g W' σ ρ3 ∧ Rp g.K W'.G v y ∧ (∀ p, W.G p = none → ¬ W.O p → (∀ m, r = .fr m → v ≠ .ref p) → W'.G p = none) ∧ Same W.G W'.G ∧ (∀ p, W'.O p → W.O p) := by
  have hp : Po g WF W0 σ (fun (z : D × List Slot) _ => z = (y, ρ3)) (M.bind (frz r) (fun d ρ1 => .ok (d, ρ1) ρ1) ρ) := by
    unfold M.bind
    rw [h]
    exact fun _ _ _ => rfl
  obtain ⟨d, ρ', W', k1, k2, k3, k4, k5, k6, k7, k8⟩ := po_frz hp a a1 so rv
  have e := k8 W' k1 k3
  injection e with e1 e2
  subst e1 e2
  exact ⟨W', k1, k2, k3, k4, k5, k6, k7⟩
theorem lcGo_lock {T : Tg} {mt : M Bool} {me : M Rv} {l : Lk} {vs : List Nat} {ds acc acc' : List D} {ρ' : List Slot} (h : lcGo T mt me l vs ds acc ρ = .ok acc' ρ') : lockOk ρ l = true := by
  cases q : lockOk ρ l with
  | true => rfl
  | false => cases ds <;> (unfold lcGo at h; simp only [q] at h; cases h)
theorem lcGo_step {T : Tg} {mt : M Bool} {me : M Rv} {l : Lk} {vs : List Nat} {d : D} {ds acc acc' : List D} {ρ' : List Slot} (h : lcGo T mt me l vs (d :: ds) acc ρ = .ok acc' ρ') :
    ∃ u ρ1 b ρ2, putT T d ρ = .ok u ρ1 ∧ mt ρ1 = .ok b ρ2 ∧ ((b = false ∧ lcGo T mt me l vs ds acc (wipeS ρ2 vs) = .ok acc' ρ') ∨
      (b = true ∧ ∃ r ρ3 y ρ4, me ρ2 = .ok r ρ3 ∧ frz r ρ3 = .ok y ρ4 ∧ acc.length < sizeLine ∧ lcGo T mt me l vs ds (acc ++ [y]) (wipeS ρ4 vs) = .ok acc' ρ')) := by
  have lo := lcGo_lock h
  unfold lcGo at h
  simp only [lo, if_true] at h
  cases q1 : putT T d ρ with
  | exc _ _ => rw [q1] at h; cases h
  | stuck => rw [q1] at h; cases h
  | ok u ρ1 =>
    rw [q1] at h
    simp only at h
    cases q2 : mt ρ1 with
    | exc _ _ => rw [q2] at h; cases h
    | stuck => rw [q2] at h; cases h
    | ok b ρ2 =>
      rw [q2] at h
      cases b with
      | false => exact ⟨u, ρ1, false, ρ2, rfl, q2, .inl ⟨rfl, h⟩⟩
      | true =>
        simp only [M.bind] at h
        cases q3 : me ρ2 with
        | exc _ _ => rw [q3] at h; cases h
        | stuck => rw [q3] at h; cases h
        | ok r ρ3 =>
          rw [q3] at h
          simp only at h
          cases q4 : frz r ρ3 with
          | exc _ _ => rw [q4] at h; cases h
          | stuck => rw [q4] at h; cases h
          | ok y ρ4 =>
            rw [q4] at h
            simp only at h
            split at h
            · rename_i hz
              exact ⟨u, ρ1, true, ρ2, rfl, q2, .inr ⟨rfl, r, ρ3, y, ρ4, q3, q4, of_decide_eq_true hz, h⟩⟩
            · cases h
theorem lkOut_LK {vs : List Nat} (h : lkOut w.lock vs = true) : LK σ (wipe σ vs) w := fun i xs e => by
  have h := List.all_eq_true.mp h _ e
  simp only [Bool.not_eq_true', List.contains_eq_mem, decide_eq_false_iff_not] at h
  exact wipe_out h
theorem lc_read {T : Tg} {mi : M Walked} {mt : M Bool} {me : M Rv} {vs : List Nat} {H : Hp} {Q : VK} (hT : ∀ i ∈ tgIx T, i ∈ vs) (h : rdE g E (lcM vs mi T mt me) σ H Q) : tLc (rdI g E mi) (rdG g T) (rdT g WF mt) (rdE g WF me) vs σ H Q := by
  obtain ⟨W, ρ, eH, so, hp⟩ := h
  subst eH
  unfold lcM at hp
  refine rd_bindI (Ext.refl W) so hp fun w ρ1 W1 J a1 _ s1 wk hp => ?_
  by_cases c : (ownFree ρ1 vs && lkOut w.lock vs) = true
  · simp only [c, if_true] at hp
    simp only [Bool.and_eq_true] at c
    obtain ⟨fr, lo⟩ := c
    cases hlc : lcGo T mt me w.lock vs w.items [] (wipeS ρ1 vs) with
    | exc _ _ => rw [hlc] at hp; exact hp.elim
    | stuck => rw [hlc] at hp; exact hp.elim
    | ok accF ρF =>
      rw [hlc] at hp
      simp only at hp
      intro L hL
      have keepL : ∀ {W2 W3 : Wd} {acc : List D}, Ext W1 W2 → Ext W2 W3 → RvOk g W1 W2 σ (.ref L) (.fr (.lst acc)) → RvOk g W1 W3 σ (.ref L) (.fr (.lst acc)) := fun a b h => h.ext a b
      refine lc_it wk.walk (fun k H' => ∃ W' ρ' acc, W'.H = H' ∧ Ext W1 W' ∧ SO g W' (wipe σ vs) ρ' ∧ RvOk g W1 W' σ (.ref L) (.fr (.lst acc)) ∧ lcGo T mt me w.lock vs (w.items.drop k) acc ρ' = .ok accF ρF) ?_ ?_ ?_ ?_
      · obtain ⟨k1, k2⟩ := so_upd (o := .lst []) (fz := false) s1 hL
        exact ⟨_, wipeS ρ1 vs, [], rfl, k2, so_wipe k1, ⟨L, rfl, hL, fun z => (s1.og L z).2 hL, k2.gn L (s1.gh.free hL) |> fun _ => s1.gh.free hL, [], upd_same, .nil⟩, hlc⟩
      · rintro k H' _ ⟨W', ρ', acc, e, a, so', _, hl⟩
        exact ⟨W', wipe σ vs, ρ', e, a, so', lkOut_LK lo, lcGo_lock hl⟩
      · rintro k x H' H'' hk ⟨W', ρ', acc, e, a, so', rv, hl⟩ y
        obtain ⟨W3, d, e3, a3, s3, hd, rd⟩ := y W' (wipe σ vs) ρ' e a so' (lkOut_LK lo) (lcGo_lock hl)
        subst e e3
        have hdrop : w.items.drop k = d :: w.items.drop (k + 1) := by
          rw [List.drop_eq_getElem_cons hk]
          rw [List.getElem?_eq_getElem hk] at hd
          rw [Option.some.inj hd]
        rw [hdrop] at hl
        obtain ⟨u, ρ2, b, ρ3, p1, p2, p3⟩ := lcGo_step hl
        refine ⟨W3, ρ', d, rfl, s3, rd, ?_⟩
        rw [p1]
        intro W4 σ2 a4 s4 fr4 len4
        have hw : wipe σ2 vs = wipe σ vs := by
          have := wipe_eq (σ := wipe σ vs) (σ2 := σ2) (vs := vs) len4 fun j hj => fr4 j fun z => hj (hT j z)
          rw [this]
          exact wipe_eq (wipe_length σ vs) fun j hj => wipe_out hj
        refine ⟨hw, W4, ρ2, rfl, s4, ?_⟩
        rw [p2]
        intro W5 a5 s5
        have rv5 := keepL a (a3.trans (a4.trans a5)) rv
        have a15 : Ext W1 W5 := a.trans (a3.trans (a4.trans a5))
        rcases p3 with ⟨eb, hl⟩ | ⟨eb, r, ρ4, z, ρ5, q3, q4, hz, hl⟩
        · subst eb
          dsimp only
          rw [if_neg (by decide)]
          exact ⟨W5, wipeS ρ3 vs, acc, rfl, a15, so_wipe2 s5 hw, rv5, hl⟩
        · subst eb
          dsimp only
          rw [if_pos rfl]
          refine ⟨W5, ρ3, rfl, s5, ?_⟩
          rw [q3]
          intro W6 a6 s6 v rv6
          obtain ⟨W7, a7, e7, s7, rd7, gn7, fz7, ow7⟩ := frz_ok q4 (a15.trans a6) a15 s6 rv6
          have rvL6 := keepL a15 a6 rv5
          obtain ⟨L', eL, hL1, hL2, hL3, us, hL4, hL5⟩ := rvL6
          cases eL
          have nL : ∀ m, r = .fr m → v ≠ .ref L := fun m er ev => by
            subst er
            obtain ⟨p, k1, k2, _⟩ := rv6
            rw [ev] at k1
            cases k1
            obtain ⟨L5, eL5, _, _, _, us5, h5, _⟩ := rv5
            cases eL5
            rw [h5] at k2
            cases k2
          have g7 := gn7 L hL3 hL2 nL
          have o7 : ¬ W7.O L := fun z => hL2 (ow7 L z)
          obtain ⟨n1, n2⟩ := upd_new (o' := .lst (us ++ [v])) a7 hL1 o7 g7 (o := .lst us) (by rw [e7]; exact hL4) s7
          refine ⟨us, hL4, by rw [hL5.length]; exact hz, ?_⟩
          rw [← e7]
          refine ⟨_, wipeS ρ5 vs, acc ++ [z], rfl, n1, so_wipe2 n2 hw, ⟨L, rfl, hL1, o7, g7, us ++ [v], upd_same, RpAll.snoc (RpAll.mono fz7 hL5) rd7⟩, hl⟩
      · rintro H' ⟨W', ρ', acc, e, a, so', rv, hl⟩
        subst e
        rw [List.drop_length] at hl
        have lo' := lcGo_lock hl
        unfold lcGo at hl
        simp only [lo', if_true] at hl
        cases hl
        exact hp W' (a1.trans a) (so_back a s1 so' fr) _ (rv.back a1)
  · simp only [c] at hp
    exact hp.elim
end
section
variable {X : Cx} {g : Gh} {E : WX} {elt tg iter : Expr} {ifs : List Expr} {scope : Scope} {own : List (Str × Nat)} {pos : Pos} {mi : M Walked} {mt : M Bool} {me : M Rv} {T : Tg}
theorem s_lc (hc : X.calm = true) (hN : X.N.Nodup) (hi : PI X tg iter (rdI g E mi)) (ok : BlkOk X.N X.env.scope scope own) (hT : ∀ i ∈ tgIx T, i ∈ own.map (·.2))
    (hg : ∀ (s : Shared) (H : Hp) (C : Addr) (cl : List (Str × Addr)) (fp : List Addr), PG (X.blk s H scope (compEnvC scope cl C X.env) fp) tg (rdG g T))
    (ht : ∀ (s : Shared) (H : Hp) (C : Addr) (cl : List (Str × Addr)) (fp : List Addr), PTs (X.blk s H scope (compEnvC scope cl C X.env) fp) ifs (rdT g WF mt))
    (he : ∀ (s : Shared) (H : Hp) (C : Addr) (cl : List (Str × Addr)) (fp : List Addr), PE (X.blk s H scope (compEnvC scope cl C X.env) fp) elt (rdE g WF me)) (hs : ∀ x, foldedSetIterable iter X.env x = pure x) :
    PE X (.ListComp elt [⟨tg, iter, ifs, 0⟩] scope pos) (rdE g E (lcM (own.map (·.2)) mi T mt me)) :=
  (pe_lc hc hN hi ok hg ht he hs).weaken fun _ _ _ h => lc_read hT h
end
end PV
set_option Elab.async false
set_option linter.all false
set_option autoImplicit false
set_option maxRecDepth 100000
set_option maxHeartbeats 1000000
/-! PV: comprehensions with two fors. -/
namespace PV
open PySem PySem.Spec PyProof.Rows L2
/-- a walk, whatever a turn does -/
theorem it_gen {J : It} {n : Nat} {G : Hp → Prop} {Y : Nat → Hp → V → Hp → Prop} (w : Walk J n G Y) {H0 : Hp} {Qd : Hp → Prop} (Pv : Nat → Hp → Prop) (h0 : Pv 0 H0) (hG : ∀ i H, i ≤ n → Pv i H → G H) (B : V → Hp → (Hp → Prop) → Prop)
    (hs : ∀ i x H H', i < n → Pv i H → Y i H x H' → B x H' (Pv (i + 1))) (hd : ∀ H, Pv n H → Qd H) :
    ∃ W : Nat → Nat → Hp → Prop, (∃ m, W 0 m H0) ∧ ∀ i m H, W i m H → (J.stop i H ∧ Qd H) ∨ (J.go i H ∧ ∃ Nx : Hp → Prop, (∀ H', Nx H' → ∃ m', m' < m ∧ W (i + 1) m' H') ∧ ∀ x H', J.yld i H x H' → B x H' Nx) := by
  refine ⟨fun i m H => m = n - i ∧ i ≤ n ∧ Pv i H, ⟨n, by simp, Nat.zero_le _, h0⟩, ?_⟩
  rintro i m H ⟨rfl, hi, p⟩
  have q := hG i H hi p
  by_cases hlt : i < n
  · refine .inr ⟨w.goes i H hlt q, Pv (i + 1), fun H' p' => ⟨n - (i + 1), by omega, rfl, hlt, p'⟩, fun x H' y => hs i x H H' hlt p (w.yields i H x H' hlt q y)⟩
  · have e : i = n := by omega
    subst e
    exact .inl ⟨w.stops H q, hd H p⟩
section
variable {g : Gh} {W Wb W0 W1 : Wd} {σ : L2.St} {ρ : List Slot} {J : It} {w : Walked} {E : WX}
/-- data that is walked, whatever else changes -/
def WkD (g : Gh) (W1 : Wd) (J : It) (items : List D) : Prop := ∀ W2 σ2 ρ2, Same W1.G W2.G → SO g W2 σ2 ρ2 → WalkOk g W2 σ2 J ⟨items, []⟩
theorem WkD.walk {items : List D} {R : Wd → L2.St → List Slot → Prop} (wk : WkD g W1 J items) : Walk J items.length (fun H => ∃ W2 σ2 ρ2, W2.H = H ∧ Same W1.G W2.G ∧ SO g W2 σ2 ρ2)
    (fun k H x H' => ∀ W2 σ2 ρ2, W2.H = H → Same W1.G W2.G → SO g W2 σ2 ρ2 → ∃ W3 d, W3.H = H' ∧ Ext W2 W3 ∧ SO g W3 σ2 ρ2 ∧ items[k]? = some d ∧ Rp g.K W3.G x d) := by
  have lk : ∀ {σ σ2 : L2.St}, LK σ σ2 (⟨items, []⟩ : Walked) := fun i xs e => by cases e
  refine ⟨fun k H hk ⟨W2, σ2, ρ2, e, s, so⟩ => ?_, fun H ⟨W2, σ2, ρ2, e, s, so⟩ => ?_, fun k H x H' hk _ y W2 σ2 ρ2 e s so => ?_⟩
  · subst e; exact (wk W2 σ2 ρ2 s so).goes k W2 σ2 ρ2 hk (Ext.refl _) so lk rfl
  · subst e; exact (wk W2 σ2 ρ2 s so).stops W2 σ2 ρ2 (Ext.refl _) so lk rfl
  · subst e; exact (wk W2 σ2 ρ2 s so).yields k W2 σ2 ρ2 x H' hk (Ext.refl _) so lk rfl y
/-- the inner loop; Wb: ahead of the new list at L -/
theorem lc_inner {T : Tg} {mt : M Bool} {me : M Rv} {vs : List Nat} {items : List D} {L : Addr} {acc0 accF : List D} {ρ0 ρF : List Slot} (hT : ∀ i ∈ tgIx T, i ∈ vs) (wk : WkD g W1 J items) (a : Ext Wb W) (sg : Same W1.G W.G) (so : SO g W (wipe σ vs) ρ0) (rv : RvOk g Wb W σ (.ref L) (.fr (.lst acc0)))
    (h : lcGo T mt me [] vs items acc0 ρ0 = .ok accF ρF) {Nx : Hp → Prop} (hN : ∀ W', Ext Wb W' → SO g W' (wipe σ vs) ρF → RvOk g Wb W' σ (.ref L) (.fr (.lst accF)) → Nx W'.H) :
    ∃ Wi : Nat → Nat → Hp → Prop, (∃ m, Wi 0 m W.H) ∧ ∀ i m H, Wi i m H → (J.stop i H ∧ Nx H) ∨ (J.go i H ∧ ∃ Nx1 : Hp → Prop, (∀ H', Nx1 H' → ∃ m', m' < m ∧ Wi (i + 1) m' H') ∧ ∀ x H', J.yld i H x H' → rdG g T x (wipe σ vs) H' fun σ2 H2 => wipe σ2 vs = wipe σ vs ∧ rdT g WF mt σ2 H2 fun b H3 =>
      if b = true then rdE g WF me σ2 H3 fun y H4 => ∃ acc, H4 L = some (.lst acc) ∧ acc.length < sizeLine ∧ Nx1 (upd H4 L (.lst (acc ++ [y]))) else Nx1 H3) := by
  refine it_gen (wk.walk (R := fun _ _ _ => True)) (fun k H' => ∃ W' ρ' acc, W'.H = H' ∧ Ext Wb W' ∧ Same W1.G W'.G ∧ SO g W' (wipe σ vs) ρ' ∧ RvOk g Wb W' σ (.ref L) (.fr (.lst acc)) ∧ lcGo T mt me [] vs (items.drop k) acc ρ' = .ok accF ρF) ⟨W, ρ0, acc0, rfl, a, sg, so, rv, h⟩ ?_
    (fun x H' Nx1 => rdG g T x (wipe σ vs) H' fun σ2 H2 => wipe σ2 vs = wipe σ vs ∧ rdT g WF mt σ2 H2 fun b H3 => if b = true then rdE g WF me σ2 H3 fun y H4 => ∃ acc, H4 L = some (.lst acc) ∧ acc.length < sizeLine ∧ Nx1 (upd H4 L (.lst (acc ++ [y]))) else Nx1 H3) ?_ ?_
  · rintro k H' _ ⟨W', ρ', acc, e, a, sg, so', _, hl⟩
    exact ⟨W', wipe σ vs, ρ', e, sg, so'⟩
  · rintro k x H' H'' hk ⟨W', ρ', acc, e, a, sg, so', rv, hl⟩ y
    obtain ⟨W3, d, e3, a3, s3, hd, rd⟩ := y W' (wipe σ vs) ρ' e sg so'
    subst e e3
    have hdrop : items.drop k = d :: items.drop (k + 1) := by
      rw [List.drop_eq_getElem_cons hk]
      rw [List.getElem?_eq_getElem hk] at hd
      rw [Option.some.inj hd]
    rw [hdrop] at hl
    obtain ⟨u, ρ2, b, ρ3, p1, p2, p3⟩ := lcGo_step hl
    refine ⟨W3, ρ', d, rfl, s3, rd, ?_⟩
    rw [p1]
    intro W4 σ2 a4 s4 fr4 len4
    have hw : wipe σ2 vs = wipe σ vs := by
      have := wipe_eq (σ := wipe σ vs) (σ2 := σ2) (vs := vs) len4 fun j hj => fr4 j fun z => hj (hT j z)
      rw [this]
      exact wipe_eq (wipe_length σ vs) fun j hj => wipe_out hj
    refine ⟨hw, W4, ρ2, rfl, s4, ?_⟩
    rw [p2]
    intro W5 a5 s5
    have rv5 : RvOk g Wb W5 σ (.ref L) (.fr (.lst acc)) := rv.ext a (a3.trans (a4.trans a5))
    have a15 : Ext Wb W5 := a.trans (a3.trans (a4.trans a5))
    have sg5 : Same W1.G W5.G := sg.trans (a3.trans (a4.trans a5)).fz
    rcases p3 with ⟨eb, hl⟩ | ⟨eb, r, ρ4, z, ρ5, q3, q4, hz, hl⟩
    · subst eb
      dsimp only
      rw [if_neg (by decide)]
      exact ⟨W5, wipeS ρ3 vs, acc, rfl, a15, sg5, so_wipe2 s5 hw, rv5, hl⟩
    · subst eb
      dsimp only
      rw [if_pos rfl]
      refine ⟨W5, ρ3, rfl, s5, ?_⟩
      rw [q3]
      intro W6 a6 s6 v rv6
      obtain ⟨W7, a7, e7, s7, rd7, gn7, fz7, ow7⟩ := frz_ok q4 (a15.trans a6) a15 s6 rv6
      have rvL6 := rv5.ext a15 a6
      obtain ⟨L', eL, hL1, hL2, hL3, us, hL4, hL5⟩ := rvL6
      cases eL
      have nL : ∀ m, r = .fr m → v ≠ .ref L := fun m er ev => by
        subst er
        obtain ⟨p, k1, k2, _⟩ := rv6
        rw [ev] at k1
        cases k1
        obtain ⟨L5, eL5, _, _, _, us5, h5, _⟩ := rv5
        cases eL5
        rw [h5] at k2
        cases k2
      have g7 := gn7 L hL3 hL2 nL
      have o7 : ¬ W7.O L := fun z => hL2 (ow7 L z)
      obtain ⟨n1, n2⟩ := upd_new (o' := .lst (us ++ [v])) a7 hL1 o7 g7 (o := .lst us) (by rw [e7]; exact hL4) s7
      refine ⟨us, hL4, by rw [hL5.length]; exact hz, ?_⟩
      rw [← e7]
      exact ⟨_, wipeS ρ5 vs, acc ++ [z], rfl, n1, sg5.trans (a6.fz.trans fz7), so_wipe2 n2 hw, ⟨L, rfl, hL1, o7, g7, us ++ [v], upd_same, RpAll.snoc (RpAll.mono fz7 hL5) rd7⟩, hl⟩
  · rintro H' ⟨W', ρ', acc, e, a, sg, so', rv, hl⟩
    subst e
    rw [List.drop_length] at hl
    have lo' := lcGo_lock hl
    unfold lcGo at hl
    simp only [lo', if_true] at hl
    cases hl
    exact hN W' a so' rv
/-- what the inner for walks -/
def rdD (g : Gh) (E : WX) (ma : M Rv) : TI := fun σ H R => ∃ W ρ, W.H = H ∧ SO g W σ ρ ∧ Po g E W σ (fun d W' => (itemsOf d).isSome = true ∧ ∀ J items, itemsOf d = some items → WkD g W' J items → R J W'.H) ((M.bind ma frz) ρ)
theorem frz_noexc0 {r : Rv} {e : Exn} {ρ' : List Slot} (h : frz r ρ = .exc e ρ') : False := by
  unfold frz at h
  split at h
  · cases h
  · cases h
  · cases h
  · split at h <;> cases h
theorem same_so {W2 : Wd} {σ2 : L2.St} {ρ2 : List Slot} (so : SO g W2 σ2 ρ2) : Same W2.G W2.H := so.gh
theorem s_iexD {X : Cx} {tg a : Expr} {ma : M Rv} (hK : X.K = g.K) (ha : PE X a (rdE g E ma)) : PI X tg a (rdD g E ma) := by
  refine (pi_any ha).weaken fun σ H R ⟨W, ρ, eH, so, hp⟩ => ?_
  subst eH
  refine rd_bind (Ext.refl W) so hp fun r ρ1 W1 v a1 b1 s1 rv hp => ?_
  cases q : frz r ρ1 with
  | exc e ρ2 => exact (frz_noexc0 q).elim
  | stuck => rw [q] at hp; exact hp.elim
  | ok d ρ2 =>
    rw [q] at hp
    obtain ⟨W2, a2, e2, s2, rp, _, _, _⟩ := frz_ok q a1 (Ext.refl W) s1 rv
    obtain ⟨hsome, hp⟩ := hp W2 a2 s2
    rw [hK, ← e2]
    cases d with
    | list xs =>
      obtain ⟨l, el, ⟨ys, h1⟩, _⟩ := wk_list (W1 := W2) (r := .val (.list xs)) (v := v) (Ext.refl W2) s2 rp rfl
      refine .inl ⟨l, ys, el, h1, hp _ xs rfl fun W3 σ3 ρ3 sg s3 => ?_⟩
      obtain ⟨l', el', _, wk⟩ := wk_list (W1 := W3) (r := .val (.list xs)) (v := v) (Ext.refl W3) s3 (show RvOk g W3 W3 σ3 v (.val (.list xs)) from Rp.mono sg rp) rfl
      rw [el] at el'
      cases el'
      exact wk
    | tuple xs =>
      obtain ⟨l, el, ⟨ys, h1⟩, _⟩ := wk_tup (σ := σ) (l := []) rp s2.gh
      refine .inr (.inl ⟨l, ys, el, h1, hp _ xs rfl fun W3 σ3 ρ3 sg s3 => ?_⟩)
      obtain ⟨l', el', _, wk⟩ := wk_tup (σ := σ3) (l := []) (Rp.mono sg rp) s3.gh
      rw [el] at el'
      cases el'
      exact wk
    | str z => exact .inr (.inr ⟨z, (by cases rp; rfl), hp _ _ rfl fun W3 σ3 ρ3 sg s3 => wk_str⟩)
    | _ => cases hsome
end
section
variable {g : Gh} {W Wb W0 W1 : Wd} {σ : L2.St} {ρ : List Slot} {J : It} {w : Walked} {E : WX}
theorem lc2Go_lock {T T1 : Tg} {mt mt1 : M Bool} {me e1 : M Rv} {l : Lk} {vs vs1 : List Nat} {ds acc acc' : List D} {ρ' : List Slot} (h : lc2Go T mt e1 T1 mt1 me l vs vs1 ds acc ρ = .ok acc' ρ') : lockOk ρ l = true := by
  cases q : lockOk ρ l with
  | true => rfl
  | false => cases ds <;> (unfold lc2Go at h; simp only [q] at h; cases h)
theorem lc2Go_step {T T1 : Tg} {mt mt1 : M Bool} {me e1 : M Rv} {l : Lk} {vs vs1 : List Nat} {d : D} {ds acc acc' : List D} {ρ' : List Slot} (h : lc2Go T mt e1 T1 mt1 me l vs vs1 (d :: ds) acc ρ = .ok acc' ρ') :
    ∃ u ρ1 b ρ2, putT T d ρ = .ok u ρ1 ∧ mt ρ1 = .ok b ρ2 ∧ ((b = false ∧ lc2Go T mt e1 T1 mt1 me l vs vs1 ds acc (wipeS ρ2 vs) = .ok acc' ρ') ∨
      (b = true ∧ ∃ y ρ3 items acc1 ρ4, (M.bind e1 frz) ρ2 = .ok y ρ3 ∧ itemsOf y = some items ∧ lcGo T1 mt1 me [] vs1 items acc (wipeS ρ3 vs1) = .ok acc1 ρ4 ∧ lc2Go T mt e1 T1 mt1 me l vs vs1 ds acc1 (wipeS ρ4 vs) = .ok acc' ρ')) := by
  have lo := lc2Go_lock h
  unfold lc2Go at h
  simp only [lo, if_true] at h
  cases q1 : putT T d ρ with
  | exc _ _ => rw [q1] at h; cases h
  | stuck => rw [q1] at h; cases h
  | ok u ρ1 =>
    rw [q1] at h
    simp only at h
    cases q2 : mt ρ1 with
    | exc _ _ => rw [q2] at h; cases h
    | stuck => rw [q2] at h; cases h
    | ok b ρ2 =>
      rw [q2] at h
      cases b with
      | false => exact ⟨u, ρ1, false, ρ2, rfl, q2, .inl ⟨rfl, h⟩⟩
      | true =>
        simp only at h
        cases q3 : (M.bind e1 frz) ρ2 with
        | exc _ _ => rw [q3] at h; cases h
        | stuck => rw [q3] at h; cases h
        | ok y ρ3 =>
          rw [q3] at h
          simp only at h
          cases q4 : itemsOf y with
          | none => rw [q4] at h; cases h
          | some items =>
            rw [q4] at h
            simp only at h
            cases q5 : lcGo T1 mt1 me [] vs1 items acc (wipeS ρ3 vs1) with
            | exc _ _ => rw [q5] at h; cases h
            | stuck => rw [q5] at h; cases h
            | ok acc1 ρ4 =>
              rw [q5] at h
              exact ⟨u, ρ1, true, ρ2, rfl, q2, .inr ⟨rfl, y, ρ3, items, acc1, ρ4, q3, q4, q5, h⟩⟩
theorem lc2_read {T T1 : Tg} {mi : M Walked} {mt mt1 : M Bool} {me e1 : M Rv} {vs vs1 : List Nat} {H : Hp} {Q : VK} (hT : ∀ i ∈ tgIx T, i ∈ vs) (hT1 : ∀ i ∈ tgIx T1, i ∈ vs1) (hv : ∀ i ∈ vs1, i ∈ vs) (h : rdE g E (lc2M vs vs1 mi T mt e1 T1 mt1 me) σ H Q) :
    tLc2 (rdI g E mi) (rdG g T) (rdT g WF mt) (rdD g WF e1) (rdG g T1) (rdT g WF mt1) (rdE g WF me) vs vs1 σ H Q := by
  obtain ⟨W, ρ, eH, so, hp⟩ := h
  subst eH
  unfold lc2M at hp
  refine rd_bindI (Ext.refl W) so hp fun w ρ1 W1 J a1 _ s1 wk hp => ?_
  by_cases c : (ownFree ρ1 vs && lkOut w.lock vs) = true
  · simp only [c, if_true] at hp
    simp only [Bool.and_eq_true] at c
    obtain ⟨fr, lo⟩ := c
    cases hlc : lc2Go T mt e1 T1 mt1 me w.lock vs vs1 w.items [] (wipeS ρ1 vs) with
    | exc _ _ => rw [hlc] at hp; exact hp.elim
    | stuck => rw [hlc] at hp; exact hp.elim
    | ok accF ρF =>
      rw [hlc] at hp
      simp only at hp
      intro L hL
      refine it_gen wk.walk (fun k H' => ∃ W' ρ' acc, W'.H = H' ∧ Ext W1 W' ∧ SO g W' (wipe σ vs) ρ' ∧ RvOk g W1 W' σ (.ref L) (.fr (.lst acc)) ∧ lc2Go T mt e1 T1 mt1 me w.lock vs vs1 (w.items.drop k) acc ρ' = .ok accF ρF) ?_ ?_
        (fun x H' Nx => rdG g T x (wipe σ vs) H' fun σ2 H2 => wipe σ2 vs = wipe σ vs ∧ rdT g WF mt σ2 H2 fun b H3 => if b = true then rdD g WF e1 σ2 H3 fun J1 H4 => ∃ Wi : Nat → Nat → Hp → Prop, (∃ m, Wi 0 m H4) ∧ ∀ j k H, Wi j k H →
          (J1.stop j H ∧ Nx H) ∨ (J1.go j H ∧ ∃ Nx1 : Hp → Prop, (∀ H', Nx1 H' → ∃ k', k' < k ∧ Wi (j + 1) k' H') ∧ ∀ x H', J1.yld j H x H' → rdG g T1 x (wipe σ2 vs1) H' fun σ3 H5 => wipe σ3 vs1 = wipe σ2 vs1 ∧ rdT g WF mt1 σ3 H5 fun b H6 =>
            if b = true then rdE g WF me σ3 H6 fun y H7 => ∃ acc, H7 L = some (.lst acc) ∧ acc.length < sizeLine ∧ Nx1 (upd H7 L (.lst (acc ++ [y]))) else Nx1 H6) else Nx H3) ?_ ?_
      · obtain ⟨k1, k2⟩ := so_upd (o := .lst []) (fz := false) s1 hL
        exact ⟨_, wipeS ρ1 vs, [], rfl, k2, so_wipe k1, ⟨L, rfl, hL, fun z => (s1.og L z).2 hL, s1.gh.free hL, [], upd_same, .nil⟩, hlc⟩
      · rintro k H' _ ⟨W', ρ', acc, e, a, so', _, hl⟩
        exact ⟨W', wipe σ vs, ρ', e, a, so', lkOut_LK lo, lc2Go_lock hl⟩
      · rintro k x H' H'' hk ⟨W', ρ', acc, e, a, so', rv, hl⟩ y
        obtain ⟨W3, d, e3, a3, s3, hd, rd⟩ := y W' (wipe σ vs) ρ' e a so' (lkOut_LK lo) (lc2Go_lock hl)
        subst e e3
        have hdrop : w.items.drop k = d :: w.items.drop (k + 1) := by
          rw [List.drop_eq_getElem_cons hk]
          rw [List.getElem?_eq_getElem hk] at hd
          rw [Option.some.inj hd]
        rw [hdrop] at hl
        obtain ⟨u, ρ2, b, ρ3, p1, p2, p3⟩ := lc2Go_step hl
        refine ⟨W3, ρ', d, rfl, s3, rd, ?_⟩
        rw [p1]
        intro W4 σ2 a4 s4 fr4 len4
        have hw : wipe σ2 vs = wipe σ vs := by
          have := wipe_eq (σ := wipe σ vs) (σ2 := σ2) (vs := vs) len4 fun j hj => fr4 j fun z => hj (hT j z)
          rw [this]
          exact wipe_eq (wipe_length σ vs) fun j hj => wipe_out hj
        refine ⟨hw, W4, ρ2, rfl, s4, ?_⟩
        rw [p2]
        intro W5 a5 s5
        have a15 : Ext W1 W5 := a.trans (a3.trans (a4.trans a5))
        have rv5 : RvOk g W1 W5 σ (.ref L) (.fr (.lst acc)) := rv.ext a (a3.trans (a4.trans a5))
        rcases p3 with ⟨eb, hl⟩ | ⟨eb, y1, ρ4, items, acc1, ρ5, q3, q4, q5, hl⟩
        · subst eb
          dsimp only
          rw [if_neg (by decide)]
          exact ⟨W5, wipeS ρ3 vs, acc, rfl, a15, so_wipe2 s5 hw, rv5, hl⟩
        · subst eb
          dsimp only
          rw [if_pos rfl]
          refine ⟨W5, ρ3, rfl, s5, ?_⟩
          rw [q3]
          intro W6 a6 s6
          refine ⟨by rw [q4]; rfl, fun J1 its hits wk1 => ?_⟩
          rw [q4] at hits
          cases hits
          have hw1 : wipe (wipe σ2 vs1) vs = wipe σ vs := by
            rw [← hw]
            exact wipe_eq (wipe_length σ2 vs1) fun j hj => wipe_out fun z => hj (hv j z)
          refine lc_inner (Wb := W1) (W1 := W6) (W := W6) hT1 wk1 (a15.trans a6) (Same.refl _) (so_wipe s6) (rv5.ext a15 a6) q5 fun W7 a7 s7 rv7 => ?_
          exact ⟨W7, wipeS ρ5 vs, acc1, rfl, a7, so_wipe2 s7 hw1, rv7, hl⟩
      · rintro H' ⟨W', ρ', acc, e, a, so', rv, hl⟩
        subst e
        rw [List.drop_length] at hl
        have lo' := lc2Go_lock hl
        unfold lc2Go at hl
        simp only [lo', if_true] at hl
        cases hl
        exact hp W' (a1.trans a) (so_back a s1 so' fr) _ (rv.back a1)
  · simp only [c] at hp
    exact hp.elim
end
section
variable {X : Cx} {g : Gh} {E : WX} {elt tg iter tg1 iter1 : Expr} {ifs ifs1 : List Expr} {scope : Scope} {own : List (Str × Nat)} {vs1 : List Nat} {pos : Pos} {mi : M Walked} {mt mt1 : M Bool} {me e1 : M Rv} {T T1 : Tg}
theorem s_lc2 (hc : X.calm = true) (hN : X.N.Nodup) (hi : PI X tg iter (rdI g E mi)) (ok : BlkOk X.N X.env.scope scope own) (hT : ∀ i ∈ tgIx T, i ∈ own.map (·.2)) (hT1 : ∀ i ∈ tgIx T1, i ∈ vs1) (hv : ∀ i ∈ vs1, i ∈ own.map (·.2))
    (hg : ∀ (s : Shared) (H : Hp) (C : Addr) (cl : List (Str × Addr)) (fp : List Addr), PG (X.blk s H scope (compEnvC scope cl C X.env) fp) tg (rdG g T))
    (ht : ∀ (s : Shared) (H : Hp) (C : Addr) (cl : List (Str × Addr)) (fp : List Addr), PTs (X.blk s H scope (compEnvC scope cl C X.env) fp) ifs (rdT g WF mt))
    (hi1 : ∀ (s : Shared) (H : Hp) (C : Addr) (cl : List (Str × Addr)) (fp : List Addr), PI (X.blk s H scope (compEnvC scope cl C X.env) fp) tg1 iter1 (rdD g WF e1))
    (hg1 : ∀ (s : Shared) (H : Hp) (C : Addr) (cl : List (Str × Addr)) (fp : List Addr), PG (X.blk s H scope (compEnvC scope cl C X.env) fp) tg1 (rdG g T1))
    (ht1 : ∀ (s : Shared) (H : Hp) (C : Addr) (cl : List (Str × Addr)) (fp : List Addr), PTs (X.blk s H scope (compEnvC scope cl C X.env) fp) ifs1 (rdT g WF mt1))
    (he : ∀ (s : Shared) (H : Hp) (C : Addr) (cl : List (Str × Addr)) (fp : List Addr), PE (X.blk s H scope (compEnvC scope cl C X.env) fp) elt (rdE g WF me)) (hs : ∀ x, foldedSetIterable iter X.env x = pure x) (hs1 : ∀ env x, foldedSetIterable iter1 env x = pure x) :
    PE X (.ListComp elt [⟨tg, iter, ifs, 0⟩, ⟨tg1, iter1, ifs1, 0⟩] scope pos) (rdE g E (lc2M (own.map (·.2)) vs1 mi T mt e1 T1 mt1 me)) :=
  (pe_lc2 hc hN hi ok hv hg ht hi1 hg1 ht1 he hs hs1).weaken fun _ _ _ h => lc2_read hT hT1 hv h
end
end PV
set_option Elab.async false
set_option linter.all false
set_option autoImplicit false
set_option maxRecDepth 100000
set_option maxHeartbeats 1000000
/-! PV: statements. -/
namespace PV
open PySem PySem.Spec PyProof.Rows L2
/-- what a def hands back: data, or a thing made since the entry that nothing else holds -/
def RetOk (g : Gh) (W : Wd) (v : V) : Rv → Prop
  | .val d => Rp g.K W.G v d
  | .fr m => ∃ p, v = .ref p ∧ g.B p = none ∧ ¬ W.O p ∧ W.G p = none ∧ MvOk g.K W p m
  | .bor _ => False
  | .st t => StOk g.K g.mg W.G v t
def FK (F : List Nat) (σ σ' : L2.St) : Prop := ∀ i ∈ F, σ'[i]? = σ[i]?
def EndS (g : Gh) (σ : L2.St) (W : Wd) (D : Ends) : Fl → Prop
  | .nx => D.nx σ W.H
  | .brk => D.bk σ W.H
  | .cnt => D.ct σ W.H
  | .ret r => ∀ v, RetOk g W v r → D.rt v W.H
def PoS (g : Gh) (E : WX) (F : List Nat) (W : Wd) (σ : L2.St) (D : Ends) : Res Fl → Prop
  | .ok fl ρ' => ∀ W' σ', Ext W W' → SO g W' σ' ρ' → FK F σ σ' → EndS g σ' W' D fl
  | .exc e ρ' => ∀ cls od σ' W', Ext W W' → SO g W' σ' ρ' → ExOk g W' e cls od → E cls od σ' W'.H
  | .stuck => False
def rdS (g : Gh) (E : WX) (F : List Nat) (m : M Fl) : TS := fun D σ H => ∃ W ρ, W.H = H ∧ SO g W σ ρ ∧ PoS g E F W σ D (m ρ)
section
variable {g : Gh} {E : WX} {F : List Nat} {W0 W W1 : Wd} {σ σ0 : L2.St} {ρ : List Slot} {D : Ends}
theorem FK.refl (F : List Nat) (σ : L2.St) : FK F σ σ := fun _ _ => rfl
theorem FK.trans {σ1 σ2 σ3 : L2.St} (a : FK F σ1 σ2) (b : FK F σ2 σ3) : FK F σ1 σ3 := fun i h => (b i h).trans (a i h)
theorem FK.set {i : Nat} {o : Option V} (h : i ∉ F) : FK F σ (σ.set i o) := fun j hj => List.getElem?_set_ne fun e => h (by rw [e]; exact hj)
/-- from a later state -/
theorem PoS.later {r : Res Fl} {σ1 : L2.St} (a : Ext W W1) (f : FK F σ σ1) (h : PoS g E F W σ D r) : PoS g E F W1 σ1 D r := by
  cases r with
  | ok fl ρ' => exact fun W' σ' a' so' f' => h W' σ' (a.trans a') so' (f.trans f')
  | exc e ρ' => exact fun cls od σ' W' a' so' x => h cls od σ' W' (a.trans a') so' x
  | stuck => exact h
theorem PoS.mono {r : Res Fl} {D' : Ends} {F' : List Nat} (hF : ∀ i ∈ F, i ∈ F') (h : PoS g E F W σ D r) (e : ∀ fl ρ' W' σ', r = .ok fl ρ' → Ext W W' → SO g W' σ' ρ' → FK F' σ σ' → EndS g σ' W' D fl → EndS g σ' W' D' fl) : PoS g E F' W σ D' r := by
  cases r with
  | ok fl ρ' => exact fun W' σ' a' so' f' => e fl ρ' W' σ' rfl a' so' f' (h W' σ' a' so' fun i hi => f' i (hF i hi))
  | exc e ρ' => exact h
  | stuck => exact h
theorem rdS_bind {m : M Rv} {f : Rv → M Fl} {Q : VK} (a : Ext W0 W) (so : SO g W σ ρ) (h : PoS g E F W0 σ0 D (M.bind m f ρ))
    (k : ∀ r ρ1 W1 v, Ext W0 W1 → Ext W W1 → SO g W1 σ ρ1 → RvOk g W W1 σ v r → PoS g E F W0 σ0 D (f r ρ1) → Q v W1.H) : rdE g E m σ W.H Q := by
  refine ⟨W, ρ, rfl, so, ?_⟩
  unfold M.bind at h
  cases q : m ρ with
  | ok r ρ1 => rw [q] at h; exact fun W1 e1 s1 v rv => k r ρ1 W1 v (a.trans e1) e1 s1 rv h
  | exc e ρ1 => rw [q] at h; exact fun cls od W1 e1 s1 x => h cls od σ W1 (a.trans e1) s1 x
  | stuck => rw [q] at h; exact h
theorem rdS_bindT {m : M Bool} {f : Bool → M Fl} {Q : Bool → Hp → Prop} (a : Ext W0 W) (so : SO g W σ ρ) (h : PoS g E F W0 σ0 D (M.bind m f ρ))
    (k : ∀ r ρ1 W1, Ext W0 W1 → Ext W W1 → SO g W1 σ ρ1 → PoS g E F W0 σ0 D (f r ρ1) → Q r W1.H) : rdT g E m σ W.H Q := by
  refine ⟨W, ρ, rfl, so, ?_⟩
  unfold M.bind at h
  cases q : m ρ with
  | ok r ρ1 => rw [q] at h; exact fun W1 e1 s1 => k r ρ1 W1 (a.trans e1) e1 s1 h
  | exc e ρ1 => rw [q] at h; exact fun cls od W1 e1 s1 x => h cls od σ W1 (a.trans e1) s1 x
  | stuck => rw [q] at h; exact h
theorem rdS_bindI {m : M Walked} {f : Walked → M Fl} {R : It → Hp → Prop} (a : Ext W0 W) (so : SO g W σ ρ) (h : PoS g E F W0 σ0 D (M.bind m f ρ))
    (k : ∀ w ρ1 W1 J, Ext W0 W1 → Ext W W1 → SO g W1 σ ρ1 → WalkOk g W1 σ J w → PoS g E F W0 σ0 D (f w ρ1) → R J W1.H) : rdI g E m σ W.H R := by
  refine ⟨W, ρ, rfl, so, ?_⟩
  unfold M.bind at h
  cases q : m ρ with
  | ok r ρ1 => rw [q] at h; exact fun W1 e1 s1 J wk => k r ρ1 W1 J (a.trans e1) e1 s1 wk h
  | exc e ρ1 => rw [q] at h; exact fun cls od W1 e1 s1 x => h cls od σ W1 (a.trans e1) s1 x
  | stuck => rw [q] at h; exact h
/-! ### steps without the machine -/
theorem ps_peek {r : Rv} {f : PyData → M Fl} (h : PoS g E F W0 σ0 D (M.bind (peek r) f ρ)) : ∃ d, cont ρ r = some d ∧ PoS g E F W0 σ0 D (f d ρ) := by
  unfold M.bind peek at h
  cases q : cont ρ r with
  | some d => rw [q] at h; exact ⟨d, rfl, h⟩
  | none => rw [q] at h; exact h.elim
theorem ps_lift {β : Type} {o : Option β} {f : β → M Fl} (h : PoS g E F W0 σ0 D (M.bind (lift o) f ρ)) : ∃ b, o = some b ∧ PoS g E F W0 σ0 D (f b ρ) := by
  unfold M.bind lift at h
  cases o with
  | some d => exact ⟨d, rfl, h⟩
  | none => exact h.elim
theorem frz_noexc {r : Rv} {e : Exn} {ρ' : List Slot} (h : frz r ρ = .exc e ρ') : False := by
  unfold frz at h
  split at h
  · cases h
  · cases h
  · cases h
  · split at h <;> cases h
theorem ps_frz {r : Rv} {f : PyData → M Fl} {v : V} {σ1 : L2.St} (h : PoS g E F W0 σ0 D (M.bind (frz r) f ρ)) (a : Ext W0 W) (a1 : Ext W0 W1) (so : SO g W σ1 ρ) (rv : RvOk g W1 W σ1 v r) :
    ∃ d ρ' W', frz r ρ = .ok d ρ' ∧ Ext W0 W' ∧ W'.H = W.H ∧ SO g W' σ1 ρ' ∧ Rp g.K W'.G v d ∧ (∀ p, W.G p = none → ¬ W.O p → (∀ m, r = .fr m → v ≠ .ref p) → W'.G p = none) ∧ Same W.G W'.G ∧ (∀ p, W'.O p → W.O p) ∧ PoS g E F W0 σ0 D (f d ρ') := by
  unfold M.bind at h
  cases q : frz r ρ with
  | exc e ρ' => exact (frz_noexc q).elim
  | stuck => rw [q] at h; exact h.elim
  | ok d ρ' =>
    rw [q] at h
    obtain ⟨W', k1, k2, k3, k4, k5, k6, k7⟩ := frz_ok q a a1 so rv
    exact ⟨d, ρ', W', rfl, k1, k2, k3, k4, k5, k6, k7, h⟩
theorem ps_storeV {i : Nat} {d : PyData} {f : Unit → M Fl} (h : PoS g E F W0 σ0 D (M.bind (store i (.val d)) f ρ)) : PoS g E F W0 σ0 D (f () (ρ.set i (.val d))) := by
  unfold M.bind at h
  rw [store_val] at h
  by_cases z : isPin ρ[i]? = true
  · simp only [z, if_true] at h; exact h.elim
  · simp only [z, Bool.false_eq_true, if_false] at h; exact h
/-- a name takes a value -/
theorem ps_store {i : Nat} {r : Rv} {f : Unit → M Fl} {v : V} {σ1 : L2.St} (h : PoS g E F W0 σ0 D (M.bind (store i r) f ρ)) (a : Ext W0 W) (a1 : Ext W0 W1) (b0 : ∀ p, g.B p ≠ none → W1.H p ≠ none) (so : SO g W σ1 ρ) (rv : RvOk g W1 W σ1 v r) :
    ∃ ρ' W', Ext W0 W' ∧ W'.H = W.H ∧ SO g W' (σ1.set i (some v)) ρ' ∧ PoS g E F W0 σ0 D (f () ρ') := by
  cases r with
  | val d => exact ⟨_, W, a, rfl, so_put so rv, ps_storeV h⟩
  | st t =>
    unfold M.bind store at h
    by_cases z : isPin ρ[i]? = true
    · simp only [z, if_true] at h; exact h.elim
    · simp only [z, Bool.false_eq_true, if_false] at h
      exact ⟨_, W, a, rfl, so_putS so rv, h⟩
  | bor j =>
    cases q : frz (.bor j) ρ with
    | exc e ρ' => exact (frz_noexc q).elim
    | stuck =>
      have e : store i (.bor j) ρ = .stuck := by
        unfold store
        simp only [q]
        split <;> rfl
      unfold M.bind at h
      rw [e] at h
      exact h.elim
    | ok d ρ' =>
      obtain ⟨W', k1, k2, k3, k4, _⟩ := frz_ok q a a1 so rv
      have e : store i (.bor j) ρ = .stuck ∨ store i (.bor j) ρ = .ok () (ρ'.set i (.val d)) := by
        unfold store
        simp only [q]
        split
        · exact .inl rfl
        · split
          · exact .inl rfl
          · exact .inr rfl
      unfold M.bind at h
      rcases e with e | e
      · rw [e] at h; exact h.elim
      · rw [e] at h
        exact ⟨_, W', k1, k2, so_put k3 k4, h⟩
  | fr m =>
    unfold M.bind store at h
    by_cases z : isPin ρ[i]? = true
    · simp only [z, if_true] at h; exact h.elim
    · simp only [z, Bool.false_eq_true, if_false] at h
      obtain ⟨p, e1, h2, h3, h4, h5⟩ := rv
      subst e1
      have bp : g.B p = none := by
        cases q : g.B p with
        | none => rfl
        | some o => exact absurd h2 (b0 p (by rw [q]; simp))
      exact ⟨_, W.take p, take_ext a (none_of_ext a1 h2), rfl, so_own so bp h3 h4 h5, h⟩
theorem rv_ret {r : Rv} {v : V} (rv : RvOk g W0 W σ v r) (b0 : ∀ p, g.B p ≠ none → W0.H p ≠ none) (h : ∀ i, r ≠ .bor i) : RetOk g W v r := by
  cases r with
  | val d => exact rv
  | st t => exact rv
  | bor i => exact absurd rfl (h i)
  | fr m =>
    obtain ⟨p, e1, h2, h3, h4, h5⟩ := rv
    refine ⟨p, e1, ?_, h3, h4, h5⟩
    cases q : g.B p with
    | none => rfl
    | some o => exact absurd h2 (b0 p (by rw [q]; simp))
end
theorem _root_.L2.PS.weaken {X : Cx} {st : Stmt} {t t' : TS} (h : PS X st t) (w : ∀ D σ H, t' D σ H → t D σ H) : PS X st t' := ⟨fun pins s σ H D I q => h.run pins s σ H D I (w _ _ _ q)⟩
theorem _root_.L2.PSs.weaken {X : Cx} {st : List Stmt} {t t' : TS} (h : PSs X st t) (w : ∀ D σ H, t' D σ H → t D σ H) : PSs X st t' := ⟨fun pins s σ H D I q => h.run pins s σ H D I (w _ _ _ q)⟩
/-! ### what the swap rules say -/
def isComp : Expr → Bool
  | .ListComp .. | .SetComp .. | .DictComp .. => true
  | _ => false
theorem sw_no {e : Expr} {t : Option Expr} {l : Nat} {env : Env} (h : isComp e = false) : swapsWith e t l env = pure false := by
  cases e <;> first | rfl | cases h
def isTupE : Expr → Bool
  | .Tuple .. => true
  | _ => false
theorem ss_name {y : Str} {p : Pos} {e : Expr} {env : Env} : swappedStores [.Name y p] e env = pure none := by cases e <;> rfl
theorem ss_tup {t e : Expr} {env : Env} (h : isTupE e = false) : swappedStores [t] e env = pure none := by
  cases e <;> first | (cases t <;> rfl) | cases h
theorem ss_sub {o i : Expr} {p : Pos} {e : Expr} {env : Env} : swappedStores [.Subscript o i p] e env = pure none := by cases e <;> rfl
theorem ss_two {t1 t2 e : Expr} {env : Env} : swappedStores [t1, t2] e env = pure none := by cases t1 <;> first | rfl | (cases e <;> rfl)
section
variable {X : Cx} {g : Gh} {E : WX} {F : List Nat} {e c : Expr} {st : Stmt} {a b rest : List Stmt} {pos : Pos} {ma mb : M Rv} {mt : M Bool} {m1 m2 : M Fl} {i j : Nat}
theorem s_snil : PSs X [] (rdS g E F (M.pure .nx)) := pss_nil.weaken fun D σ H ⟨W, ρ, eH, so, hp⟩ => by
  subst eH
  exact hp W σ (Ext.refl W) so (FK.refl F σ)
theorem s_scons (h1 : PS X st (rdS g E F m1)) (h2 : PSs X rest (rdS g E F m2)) : PSs X (st :: rest) (rdS g E F (M.bind m1 fun f => match f with
    | .nx => m2
    | f => M.pure f)) := by
  refine (pss_cons h1 h2).weaken fun D σ H ⟨W, ρ, eH, so, hp⟩ => ?_
  subst eH
  refine ⟨W, ρ, rfl, so, ?_⟩
  unfold M.bind at hp
  cases q : m1 ρ with
  | exc e ρ1 => rw [q] at hp; exact hp
  | stuck => rw [q] at hp; exact hp
  | ok fl ρ1 =>
    rw [q] at hp
    cases fl with
    | nx => exact fun W' σ' a' so' f' => ⟨W', ρ1, rfl, so', PoS.later a' f' hp⟩
    | brk => exact hp
    | cnt => exact hp
    | ret r => exact hp
theorem s_if (ht : PT X c (rdT g E mt)) (ha : PSs X a (rdS g E F m1)) (hb : PSs X b (rdS g E F m2)) : PS X (.If c a b pos) (rdS g E F (M.bind mt fun k => if k then m1 else m2)) := by
  refine (ps_if ht ha hb).weaken fun D σ H ⟨W, ρ, eH, so, hp⟩ => ?_
  subst eH
  refine rdS_bindT (Ext.refl W) so hp fun k ρ1 W1 a1 _ s1 hp => ?_
  cases k with
  | true => exact ⟨W1, ρ1, rfl, s1, PoS.later a1 (FK.refl F σ) hp⟩
  | false => exact ⟨W1, ρ1, rfl, s1, PoS.later a1 (FK.refl F σ) hp⟩
theorem s_dead {s : Stmt} : PS X s (rdS g E F stuckM) := ⟨fun pins s σ H D I ⟨W, ρ, eH, so, hp⟩ => hp.elim⟩
theorem s_pass : PS X (.Pass pos) (rdS g E F (M.pure .nx)) := ps_pass.weaken fun D σ H ⟨W, ρ, eH, so, hp⟩ => by
  subst eH
  exact hp W σ (Ext.refl W) so (FK.refl F σ)
theorem s_brk : PS X (.Break pos) (rdS g E F (M.pure .brk)) := ps_break.weaken fun D σ H ⟨W, ρ, eH, so, hp⟩ => by
  subst eH
  exact hp W σ (Ext.refl W) so (FK.refl F σ)
theorem s_cnt : PS X (.Continue pos) (rdS g E F (M.pure .cnt)) := ps_continue.weaken fun D σ H ⟨W, ρ, eH, so, hp⟩ => by
  subst eH
  exact hp W σ (Ext.refl W) so (FK.refl F σ)
theorem s_expr (ha : PE X e (rdE g E ma)) (hs : isComp e = false) : PS X (.Expr e pos) (rdS g E F (M.bind ma fun _ => M.pure .nx)) := by
  refine (ps_expr ha (sw_no hs)).weaken fun D σ H ⟨W, ρ, eH, so, hp⟩ => ?_
  subst eH
  exact rdS_bind (Ext.refl W) so hp fun r ρ1 W1 v a1 _ s1 rv hp => hp W1 σ a1 s1 (FK.refl F σ)
theorem s_retN : PS X (.Return none pos) (rdS g E F (M.pure (.ret (.val .none)))) := ps_retN.weaken fun D σ H ⟨W, ρ, eH, so, hp⟩ => by
  subst eH
  exact hp W σ (Ext.refl W) so (FK.refl F σ) .non .non
theorem s_ret (ha : PE X e (rdE g E ma)) : PS X (.Return (some e) pos) (rdS g E F (M.bind ma fun r => fun ρ => match r with
    | .bor i => match ρ[i]? with
      | some (.val d) => .ok (.ret (.val d)) ρ
      | some (.own none m) => .ok (.ret (.fr m)) (ρ.set i .non)
      | _ => .stuck
    | r => .ok (.ret r) ρ)) := by
  refine (ps_ret ha).weaken fun D σ H ⟨W, ρ, eH, so, hp⟩ => ?_
  subst eH
  refine rdS_bind (Ext.refl W) so hp fun r ρ1 W1 v a1 _ s1 rv hp => ?_
  cases r with
  | val d => exact hp W1 σ a1 s1 (FK.refl F σ) v (rv_ret rv so.bt fun i => by simp)
  | fr m => exact hp W1 σ a1 s1 (FK.refl F σ) v (rv_ret rv so.bt fun i => by simp)
  | st t => exact hp W1 σ a1 s1 (FK.refl F σ) v (rv_ret rv so.bt fun i => by simp)
  | bor i =>
    have rv : σ[i]? = some (some v) := rv
    simp only at hp
    cases q : ρ1[i]? with
    | none => simp only [q] at hp; exact hp.elim
    | some s =>
      cases s with
      | non => simp only [q] at hp; exact hp.elim
      | st t => simp only [q] at hp; exact hp.elim
      | val d =>
        simp only [q] at hp
        obtain ⟨v', k1, k2⟩ := s1.slots i _ q
        rw [rv] at k1
        cases k1
        exact hp W1 σ a1 s1 (FK.refl F σ) v k2
      | own pin m =>
        cases pin with
        | some k => simp only [q] at hp; exact hp.elim
        | none =>
          simp only [q] at hp
          obtain ⟨p, k1, k2, k3, k4⟩ := s1.slots i _ q
          rw [rv] at k1
          cases k1
          have il : i < ρ1.length := (List.getElem?_eq_some_iff.mp q).1
          have keep : ∀ {m : Mv} {r : Addr}, MvOk g.K W1 r m → MvOk g.K ⟨W1.H, W1.G, fun b => W1.O b ∧ b ≠ p⟩ r m := fun {m r} h => by cases m <;> exact h
          have own : ∀ {t : Nat} {x : Option Nat} {m1 : Mv}, (ρ1.set i .non)[t]? = some (.own x m1) → t ≠ i ∧ ρ1[t]? = some (.own x m1) := fun {t x m1} ht => by
            rcases set_cases ht with ⟨_, z⟩ | z
            · cases z
            · exact z
          refine hp ⟨W1.H, W1.G, fun b => W1.O b ∧ b ≠ p⟩ σ ⟨a1.fz, a1.fr, fun b h => a1.ow b h.1, a1.gn, a1.tr⟩ ⟨s1.gh, fun b h => s1.og b h.1, s1.bt, by simpa using s1.len, fun t s ht => ?_, fun t l x y m1 m2 z h1 h2 h3 h4 => s1.inj t l x y m1 m2 z (own h1).2 (own h2).2 h3 h4⟩ (FK.refl F σ) (.ref p) ⟨p, rfl, k4, fun z => z.2 rfl, (s1.og p k2).1, keep k3⟩
          cases s with
          | non => trivial
          | val d =>
            rcases set_cases ht with ⟨_, z⟩ | ⟨_, z⟩
            · cases z
            · exact s1.slots t _ z
          | st _ =>
            rcases set_cases ht with ⟨_, z⟩ | ⟨_, z⟩
            · cases z
            · exact s1.slots t _ z
          | own x m1 =>
            obtain ⟨nt, ht⟩ := own ht
            obtain ⟨q', l1, l2, l3, l4⟩ := s1.slots t _ ht
            exact ⟨q', l1, ⟨l2, fun z => nt (s1.inj t i _ _ _ _ p ht q (z ▸ l1) rv)⟩, keep l3, l4⟩
/-! ### stores -/
theorem set_read {D : Ends} {W : Wd} {σ : L2.St} {ρ : List Slot} (so : SO g W σ ρ) (hi : i ∉ F) (hp : PoS g E F W σ D ((M.bind ma fun r => M.bind (store i r) fun _ => M.pure .nx) ρ)) : tAsg (rdE g E ma) (gName i) D σ W.H := by
  unfold tAsg
  refine rdS_bind (Ext.refl W) so hp fun r ρ1 W1 v a1 _ s1 rv hp => ?_
  obtain ⟨ρ2, W2, k1, k2, k3, hp⟩ := ps_store hp a1 (Ext.refl W) so.bt s1 rv
  rw [← k2]
  exact hp W2 _ k1 k3 (FK.set hi)
theorem s_set {y : Str} {p : Pos} (hN : X.N.Nodup) (hi : X.N[i]? = some y) (hx : Loc X.env.scope y) (hf : X.fn y = true ∨ X.env.scope.names.lookup y = some .local) (hF : i ∉ F) (ha : PE X e (rdE g E ma)) (hs : swapsWith e (some (.Name y p)) pos.line X.env = pure false) :
    PS X (.Assign [.Name y p] e pos) (rdS g E F (M.bind ma fun r => M.bind (store i r) fun _ => M.pure .nx)) :=
  (ps_set hN hi hx ha hs hf).weaken fun D σ H ⟨W, ρ, eH, so, hp⟩ => by
    subst eH
    exact set_read so hF hp
theorem s_asgT {T : Tg} {tg : Expr} (hT : ∀ i, T ≠ .nm i) (hF : ∀ i ∈ tgIx T, i ∉ F) (ha : PE X e (rdE g E ma)) (hg : PG X tg (rdGt g T)) (hs : isComp e = false) (ht : isTupE e = false) (h1 : (assignEach [tg] X.env).map (·.2) = [assign tg X.env]) :
    PS X (.Assign [tg] e pos) (rdS g E F (M.bind ma fun r => M.bind (peek r) fun d => M.bind (putT T d) fun _ => M.pure .nx)) := by
  refine (ps_asg ha hg (sw_no hs) (ss_tup ht) h1).weaken fun D σ H ⟨W, ρ, eH, so, hp⟩ => ?_
  subst eH
  unfold tAsg
  refine rdS_bind (Ext.refl W) so hp fun r ρ1 W1 v a1 b1 s1 rv hp => ?_
  obtain ⟨d, ed, hp⟩ := ps_peek hp
  have rt := s1.cont rv ed
  refine ⟨W1, ρ1, d, rfl, s1, rt, ?_⟩
  unfold M.bind at hp
  cases q : putT T d ρ1 with
  | exc _ _ => exact (putT_noexc q).elim
  | stuck => rw [q] at hp; exact hp.elim
  | ok u ρ2 =>
    rw [q] at hp
    exact fun W2 σ2 a2 s2 f2 _ => hp W2 σ2 (a1.trans a2) s2 fun j hj => f2 j fun z => hF j z hj
theorem s_asg2 {t1 t2 : Expr} (hi : i ∉ F) (hj : j ∉ F) (ha : PE X e (rdE g E ma)) (h1 : PG X t1 (gName i)) (h2 : PG X t2 (gName j)) (hs : (assignEach [t1, t2] X.env).map (·.2) = [assign t1 X.env, assign t2 X.env]) :
    PS X (.Assign [t1, t2] e pos) (rdS g E F (M.bind ma fun r => M.bind (frz r) fun d => M.bind (store i (.val d)) fun _ => M.bind (store j (.val d)) fun _ => M.pure .nx)) := by
  refine (ps_asg2 ha h1 h2 hs ss_two).weaken fun D σ H ⟨W, ρ, eH, so, hp⟩ => ?_
  subst eH
  unfold tAsg2
  refine rdS_bind (Ext.refl W) so hp fun r ρ1 W1 v a1 b1 s1 rv hp => ?_
  obtain ⟨d, ρ2, W2, _, a2, eH, s2, rp, _, _, _, hp⟩ := ps_frz hp a1 (Ext.refl W) s1 rv
  have hp := ps_storeV (ps_storeV hp)
  rw [← eH]
  exact hp W2 _ a2 (so_put (so_put s2 rp) rp) ((FK.set hi).trans (FK.set hj))
theorem s_par {x y : Str} {ea eb : Expr} {px py pt pt2 : Pos} {kt k2 : Nat} (hc : X.calm = true) (hN : X.N.Nodup) (hi : X.N[i]? = some x) (hj : X.N[j]? = some y) (hij : i ≠ j) (hx : X.env.scope.names.lookup x = some .local) (hy : X.env.scope.names.lookup y = some .local)
    (hFi : i ∉ F) (hFj : j ∉ F) (ha : PE X ea (rdE g E ma)) (hb : PE X eb (rdE g E mb)) (hs1 : starEach [ea, eb] X.env = (false, eval ea X.env) :: starEach [eb] X.env) (hs2 : starEach [eb] X.env = (false, eval eb X.env) :: starEach [] X.env)
    (hw : swappedStores [.Tuple [.Name x px, .Name y py] kt pt] (.Tuple [ea, eb] k2 pt2) X.env = pure (some [x, y])) :
    PS X (.Assign [.Tuple [.Name x px, .Name y py] kt pt] (.Tuple [ea, eb] k2 pt2) pos) (rdS g E F (M.bind ma fun x => M.bind mb fun y => M.bind (frz x) fun dx => M.bind (frz y) fun dy => M.bind (store i (.val dx)) fun _ => M.bind (store j (.val dy)) fun _ => M.pure .nx)) := by
  refine (ps_par hc hN hi hj hij hx hy (pa_cons ha (pa_cons hb pa_nil hs2) hs1) hw rfl).weaken fun D σ H ⟨W, ρ, eH, so, hp⟩ => ?_
  subst eH
  unfold tPar tCons
  refine rdS_bind (Ext.refl W) so hp fun r1 ρ1 W1 v1 a1 b1 s1 rv1 hp => ?_
  refine rdS_bind a1 s1 hp fun r2 ρ2 W2 v2 a2 b2 s2 rv2 hp => ?_
  have rvs := RvsOk.push (RvOk.back rv1 (Ext.refl W)) a1 b2 (RvsOk.cons rv2 .nil fun _ _ j m' h => by simp at h)
  obtain ⟨dx, ρ3, W3, _, a3, e3, s3, rp1, gn, fz, ow, hp⟩ := ps_frz hp a2 (Ext.refl W) s2 (rv1.ext a1 b2)
  have rv2' : RvOk g W W3 σ v2 r2 := by
    cases rvs with
    | cons h1 h2 h3 =>
      cases h2.after e3 fz ow gn h3 with
      | cons h _ _ => exact h
  obtain ⟨dy, ρ4, W4, _, a4, e4, s4, rp2, _, fz4, _, hp⟩ := ps_frz hp a3 (Ext.refl W) s3 rv2'
  have hp := ps_storeV (ps_storeV hp)
  refine ⟨v1, v2, rfl, ?_⟩
  rw [← e3, ← e4]
  exact hp W4 _ a4 (so_put (so_put s4 (Rp.mono fz4 rp1)) rp2) ((FK.set hFi).trans (FK.set hFj))
/-! ### o[i] = e -/
def rSetA (o i v : V) (H : Hp) (Q : Hp → Prop) : Prop := rSetL o i v H Q ∨ ∃ a H', o = .ref a ∧ DPut H a i v H' ∧ Q H'
theorem setIx {D : Ends} {W W0 : Wd} {σ σ0 : L2.St} {ρ : List Slot} {k d : PyData} {vk vd : V} {p : Addr} (a : Ext W0 W) (so : SO g W σ ρ) (hs : σ[i]? = some (some (.ref p))) (rk : Rt g.K W vk k) (rd : Rp g.K W.G vd d) (f : FK F σ0 σ) (hp : PoS g E F W0 σ0 D (setM i k d ρ)) : rSetA (.ref p) vk vd W.H fun H => D.nx σ H := by
  unfold setM at hp
  cases q : ρ[i]? with
  | none => rw [q] at hp; exact hp.elim
  | some s =>
    cases s with
    | non => rw [q] at hp; exact hp.elim
    | st t => rw [q] at hp; exact hp.elim
    | val d => rw [q] at hp; exact hp.elim
    | own pin m =>
      simp only [q] at hp
      cases z : setV m k d with
      | none => simp only [z] at hp; exact hp.elim
      | some m' =>
        simp only [z] at hp
        obtain ⟨p', k1, k2, k3, k4⟩ := so.slot q
        rw [hs] at k1
        cases k1
        unfold setV at z
        cases m with
        | dct kvs =>
          have z : (match keyD k with | some key => if decide (kvs.length < sizeLine) then some (Mv.dct (putKD kvs key d)) else none | none => none) = some m' := by cases k <;> exact z
          cases ek : keyD k with
          | none => rw [ek] at z; cases z
          | some key =>
            rw [ek] at z
            simp only at z
            split at z
            · rename_i hl
              cases z
              obtain ⟨vs, h1, r1⟩ := k3
              have ev := keyD_kV rk ek
              subst ev
              obtain ⟨n1, n2⟩ := so_set (o := .dK (putK vs key vd)) (m' := .dct (putKD kvs key d)) so q hs ⟨_, upd_same, rpkv_put rd r1⟩
              have hl2 : vs.length < sizeLine := by
                have := rpkv_len r1
                rw [List.length_map] at this
                rw [this]
                exact of_decide_eq_true hl
              exact .inr ⟨p, _, rfl, DPut.k h1 hl2, hp _ σ (a.trans n2) n1 f⟩
            · cases z
        | lst xs =>
          cases k with
          | int n =>
            simp only at z
            cases rk.int
            obtain ⟨vs, h1, r1⟩ := k3
            cases y : ixN xs.length n with
            | none => rw [y] at z; cases z
            | some j =>
              rw [y] at z
              cases z
              obtain ⟨n1, n2⟩ := so_set (o := .lst (vs.set j vd)) (m' := .lst (xs.set j d)) so q hs ⟨_, upd_same, RpAll.set rd j r1⟩
              exact .inl ⟨p, vs, n, j, rfl, rfl, h1, by rw [r1.length]; exact y, hp _ σ (a.trans n2) n1 f⟩
          | _ => cases z
theorem setIxL {D : Ends} {W W0 : Wd} {σ σ0 : L2.St} {ρ : List Slot} {k d : PyData} {vk vd : V} {p : Addr} (ho : isOwnL ρ[i]? = true) (a : Ext W0 W) (so : SO g W σ ρ) (hs : σ[i]? = some (some (.ref p))) (rk : Rt g.K W vk k) (rd : Rp g.K W.G vd d) (f : FK F σ0 σ) (hp : PoS g E F W0 σ0 D (setM i k d ρ)) : rSetL (.ref p) vk vd W.H fun H => D.nx σ H := by
  rcases setIx a so hs rk rd f hp with h | ⟨b, H', e, z, _⟩
  · exact h
  · obtain ⟨q, pin, xs, vs, k1, k2, k3, _⟩ := own_at so ho
    rw [hs] at k2
    cases k2
    cases e
    rcases z with ⟨kvs, _, z, _⟩ | ⟨kvs, _, _, z, _⟩ <;> (rw [k3] at z; cases z)
theorem own_any {W : Wd} {σ : L2.St} {ρ : List Slot} (so : SO g W σ ρ) (h : isOwn ρ[i]? = true) : ∃ p, σ[i]? = some (some (.ref p)) := by
  cases q : ρ[i]? with
  | none => rw [q] at h; cases h
  | some s =>
    cases s with
    | own pin m =>
      obtain ⟨p, h1, _⟩ := so.slot q
      exact ⟨p, h1⟩
    | _ => rw [q] at h; cases h
theorem s_setI (hu : X.A.units + 1 < cLine) {o k : Expr} {mk : M Rv} {pos' : Pos} (ha : PE X e (rdE g E ma)) (ho : PE X o (tVar i)) (hk : PE X k (rdE g E mk)) (hs : isComp e = false)
    (hg : ∀ v, assign (.Subscript o k pos') X.env v = (do
      let ov ← holding [v] (eval o X.env)
      let iv ← holding [v, ov] (eval k X.env)
      standAt pos'
      holding [v, ov, iv] (setItem ov iv v)
      release [v, ov, iv] [])) (h1 : (assignEach [.Subscript o k pos'] X.env).map (·.2) = [assign (.Subscript o k pos') X.env]) :
    PS X (.Assign [.Subscript o k pos'] e pos) (rdS g E F (M.bind ma fun r => M.bind (frz r) fun d => fun ρ => if isOwn ρ[i]? then (M.bind mk fun k => M.bind (peek k) fun kd => setM i kd d) ρ else .stuck)) := by
  refine (ps_asg ha (pg_sub ho hk (PSet.or set_list (set_dict hu)) hg) (show swapsWith e (some (.Subscript o k pos')) pos.line X.env = _ from sw_no hs) ss_sub h1).weaken fun D σ H ⟨W, ρ, eH, so, hp⟩ => ?_
  subst eH
  unfold tAsg gSub
  refine rdS_bind (Ext.refl W) so hp fun r ρ1 W1 v a1 b1 s1 rv hp => ?_
  obtain ⟨d, ρ2, W2, _, a2, eH, s2, rp, _, _, _, hp⟩ := ps_frz hp a1 (Ext.refl W) s1 rv
  rw [← eH]
  by_cases z : isOwn ρ2[i]? = true
  · simp only [z, if_true] at hp
    obtain ⟨p, k2⟩ := own_any s2 z
    refine ⟨_, k2, ?_⟩
    refine rdS_bind a2 s2 hp fun rk ρ3 W3 vk a3 b3 s3 rvk hp => ?_
    obtain ⟨kd, ek, hp⟩ := ps_peek hp
    exact setIx a3 s3 k2 (s3.cont rvk ek) (Rp.mono b3.fz rp) (FK.refl F σ) hp
  · simp only [z, Bool.false_eq_true, if_false] at hp
    exact hp.elim
/-! ### name op= e -/
def ipV (K : Frg) (o : BO) : TIp := fun x y H Q => ∃ (W : Wd) (a b d : PyData), W.H = H ∧ Same W.G W.H ∧ Rt K W x a ∧ Rt K W y b ∧ iopV o a b = some d ∧ ∀ v, Rp K W.G v d → Q v W.H
theorem ip_V (o : BO) : PIp X (opB o) (ipV X.K o) := by
  intro pins s σ H x y v u Q I rx ry ⟨W, a, b, d, eH, gh, ra, rb, e, q⟩
  subst eH
  cases o with
  | add =>
    cases a with
    | int i =>
      cases b with
      | int j =>
        cases e
        cases ra.int
        cases rb.int
        exact ip_add pins s σ _ _ _ v u Q I rx ry ⟨i, j, rfl, rfl, q _ (.int _)⟩
      | _ => cases e
    | str z =>
      cases b with
      | str z2 =>
        simp only [iopV] at e
        split at e
        · rename_i hz
          cases e
          cases ra.str
          cases rb.str
          exact in_addS pins s σ _ _ _ v u Q I rx ry ⟨z, z2, rfl, rfl, fitsL_ok hz, q _ (.str _)⟩
        · cases e
      | _ => cases e
    | _ => cases b <;> cases e
  | sub =>
    cases a with
    | int i =>
      cases b with
      | int j =>
        cases e
        cases ra.int
        cases rb.int
        exact ip_sub pins s σ _ _ _ v u Q I rx ry ⟨i, j, rfl, rfl, q _ (.int _)⟩
      | _ => cases e
    | _ => cases b <;> cases e
  | _ => cases a <;> cases b <;> cases e
theorem s_aug {y : Str} {p : Pos} (hK : X.K = g.K) (o : BO) (hN : X.N.Nodup) (hi : X.N[i]? = some y) (hx : Loc X.env.scope y) (hf : X.fn y = true ∨ X.env.scope.names.lookup y = some .local) (hF : i ∉ F) (ha : PE X e (rdE g E ma)) :
    PS X (.AugAssign (.Name y p) (opB o) e pos) (rdS g E F fun ρ => match ρ[i]? with
      | some (.val x) => (M.bind ma fun r => M.bind (peek r) fun y => M.bind (lift (iopV o x y)) fun z => M.bind (store i (.val z)) fun _ => M.pure .nx) ρ
      | _ => .stuck) := by
  refine (ps_aug hN hi hx ha (ip_V o) hf).weaken fun D σ H ⟨W, ρ, eH, so, hp⟩ => ?_
  subst eH
  simp only at hp
  cases q : ρ[i]? with
  | none => rw [q] at hp; exact hp.elim
  | some s =>
    cases s with
    | non => rw [q] at hp; exact hp.elim
    | st t => rw [q] at hp; exact hp.elim
    | own _ _ => rw [q] at hp; exact hp.elim
    | val d =>
      simp only [q] at hp
      obtain ⟨v, k1, k2⟩ := so.slot q
      refine ⟨v, k1, ?_⟩
      refine rdS_bind (Ext.refl W) so hp fun r ρ1 W1 v1 a1 _ s1 rv hp => ?_
      obtain ⟨d1, e1, hp⟩ := ps_peek hp
      obtain ⟨z, ez, hp⟩ := ps_lift hp
      have hp := ps_storeV hp
      rw [hK]
      exact ⟨W1, d, d1, z, rfl, s1.gh, Rt.of_rp s1.gh (Rp.mono a1.fz k2), s1.cont rv e1, ez, fun w rw' => hp W1 _ a1 (so_put s1 rw') (FK.set hF)⟩
/-! ### o[i] op= e -/
theorem get_list {X : Cx} : PGet X (rIxL X.K) := by
  intro pins s σ H o i ov iv Q I ro ri ⟨p, xs, n, z, eo, ei, hq, he, q⟩
  subst eo ei
  cases ro
  obtain ⟨t, rfl⟩ := ri
  obtain ⟨its, r, pl, hz⟩ := I.list hq
  obtain ⟨j, h1, h2, h3, h4, h5⟩ := atI_get he
  obtain ⟨w, ew, rw'⟩ := r.get h2
  have len := r.length
  have big := line63
  by_cases h0 : 0 ≤ n
  · rw [seqIndex_of h0 h5] at h1
    exact wpAny_getItem_list pl.isList h0 (by omega) (by rw [Option.some.inj h1]; simpa using ew) ⟨z, H, I, rw', q⟩
  · rw [seqIndex_neg (by omega) h4] at h1
    have ej : (n + (its.toArray.size : Int)).toNat = j := by rw [List.size_toArray, ← len]; exact Option.some.inj h1
    exact wpAny_getItem_list_neg pl.isList (by omega) (by rw [List.size_toArray]; omega) (by omega) (by rw [ej]; simpa using ew) ⟨z, H, I, rw', q⟩
theorem aug_ok {k : Expr} (h : plainIx k = true) : ∀ ov iv new, augStore k ov iv new = (do holding [new, ov, iv] (setItem ov iv new); release [new, ov, iv] []; pure .next) := by
  intro ov iv new
  cases k <;> first | rfl | cases h
theorem s_augI {o k : Expr} {mk : M Rv} {tpos : Pos} (op : BO) (hK : X.K = g.K) (ho : PE X o (tVar i)) (hk : PE X k (rdE g E mk)) (ha : PE X e (rdE g E ma)) (hx : plainIx k = true) :
    PS X (.AugAssign (.Subscript o k tpos) (opB op) e pos) (rdS g E F fun ρ => if isOwnL ρ[i]? then (M.bind mk fun k => M.bind (peek k) fun kd => M.bind (peekL i) fun xs => M.bind (lift (idxV (.list xs) kd)) fun x =>
      M.bind ma fun r => M.bind (peek r) fun y => M.bind (lift (iopV op x y)) fun z => setML i kd z) ρ else .stuck) := by
  refine (ps_augS ho hk get_list ha (ip_V op) set_list (aug_ok hx)).weaken fun D σ H ⟨W, ρ, eH, so, hp⟩ => ?_
  subst eH
  by_cases z : isOwnL ρ[i]? = true
  · simp only [z, if_true] at hp
    obtain ⟨p, pin, xs0, vs0, k0, k1, k2, k3, k4⟩ := own_at so z
    refine ⟨_, k1, ?_⟩
    refine rdS_bind (Ext.refl W) so hp fun rk ρ1 W1 vk a1 b1 s1 rvk hp => ?_
    obtain ⟨kd, ek, hp⟩ := ps_peek hp
    unfold M.bind peekL at hp
    cases q : ρ1[i]? with
    | none => simp only [q, ownLst] at hp; exact hp.elim
    | some sl =>
    cases sl with
    | non => simp only [q, ownLst] at hp; exact hp.elim
    | st _ => simp only [q, ownLst] at hp; exact hp.elim
    | val d => simp only [q, ownLst] at hp; exact hp.elim
    | own pin1 m1 =>
    cases m1 with
    | dct _ => simp only [q, ownLst] at hp; exact hp.elim
    | lst xs =>
    simp only [q, ownLst] at hp
    have hp : PoS g E F W σ D (M.bind (lift (idxV (.list xs) kd)) (fun x => M.bind ma fun r => M.bind (peek r) fun y => M.bind (lift (iopV op x y)) fun z => setML i kd z) ρ1) := hp
    obtain ⟨x, ex, hp⟩ := ps_lift hp
    have rtk := s1.cont rvk ek
    obtain ⟨p', l1, l2, ⟨vs, l3, l4⟩, _⟩ := s1.slot q
    rw [k1] at l1
    cases l1
    cases kd with
    | int n =>
      cases rtk.int
      obtain ⟨w, h2, h3⟩ := atI_map l4 (show atI xs n = some x from ex)
      refine ⟨p, vs, n, w, rfl, rfl, (Lq.of l3).sq, h2, ?_⟩
      refine rdS_bind a1 s1 hp fun r ρ2 W2 v2 a2 b2 s2 rv hp => ?_
      obtain ⟨y, ey, hp⟩ := ps_peek hp
      obtain ⟨zz, ez, hp⟩ := ps_lift hp
      rw [hK]
      unfold setML at hp
      by_cases zo : isOwnL ρ2[i]? = true
      · simp only [zo, if_true] at hp
        exact ⟨W2, x, y, zz, rfl, s2.gh, Rt.of_rp s2.gh (Rp.mono b2.fz h3), s2.cont rv ey, ez, fun v rv' => setIxL zo a2 s2 k1 (show Rt g.K W2 (.int n) (.int n) from Rp.int n) rv' (FK.refl F σ) hp⟩
      · simp only [zo, Bool.false_eq_true, if_false] at hp
        exact hp.elim
    | _ => cases ex
  · simp only [z, Bool.false_eq_true, if_false] at hp
    exact hp.elim
/-! ### loops -/
theorem forGo_lock {T : Tg} {mb : M Fl} {l : Lk} {ds : List PyData} {ρ : List Slot} {W : Wd} {σ : L2.St} {D : Ends} (h : PoS g E F W σ D (forGo T mb l ds ρ)) : lockOk ρ l = true := by
  cases q : lockOk ρ l with
  | true => rfl
  | false => cases ds <;> (unfold forGo at h; simp only [q, Bool.false_eq_true, if_false] at h; exact h.elim)
theorem s_for {tg it : Expr} {T : Tg} {mi : M Walked} {L : List Nat} (hpo : PassesOwn (model X.prog X.w) X.A X.env X.xe) (hc : X.calm = true) (hi : PI X tg it (rdI g E mi)) (hg : PG X tg (rdG g T)) (hb : PSs X a (rdS g E (L ++ F) m1)) (hT : ∀ i ∈ tgIx T, i ∉ L ++ F)
    (hs : ∀ x, foldedSetIterable it X.env x = pure x) : PS X (.For tg it a [] pos) (rdS g E F (M.bind mi fun w => if lkIn w.lock L then forGo T m1 w.lock w.items else stuckM)) := by
  refine (ps_for hpo hc hi hg hb hs).weaken fun D σ H ⟨W, ρ, eH, so, hp⟩ => ?_
  subst eH
  unfold tFor
  refine rdS_bindI (Ext.refl W) so hp fun w ρ1 W1 J a1 _ s1 wk hp => ?_
  by_cases c : lkIn w.lock L = true
  · simp only [c, if_true] at hp
    have LKof : ∀ {σ2 : L2.St}, FK (L ++ F) σ σ2 → LK σ σ2 w := fun f i xs e => by
      have c := List.all_eq_true.mp c _ e
      simp only [List.contains_eq_mem, decide_eq_true_eq] at c
      exact f i (List.mem_append_left _ c)
    refine for_it wk.walk (fun k σ' H' => ∃ W' ρ', W'.H = H' ∧ Ext W1 W' ∧ SO g W' σ' ρ' ∧ FK (L ++ F) σ σ' ∧ PoS g E F W σ D (forGo T m1 w.lock (w.items.drop k) ρ')) ⟨W1, ρ1, rfl, Ext.refl _, s1, FK.refl _ _, hp⟩ ?_ ?_ ?_
    · rintro k σ' H' _ ⟨W', ρ', e, b, s', f, h⟩
      exact ⟨W', σ', ρ', e, b, s', LKof f, forGo_lock h⟩
    · rintro k x σ' H' H'' hk ⟨W', ρ', e, b, s', f, h⟩ y
      have lo := forGo_lock h
      obtain ⟨W3, d, e3, a3, s3, hd, rd⟩ := y W' σ' ρ' e b s' (LKof f) lo
      subst e e3
      have hdrop : w.items.drop k = d :: w.items.drop (k + 1) := by
        rw [List.drop_eq_getElem_cons hk]
        rw [List.getElem?_eq_getElem hk] at hd
        rw [Option.some.inj hd]
      rw [hdrop] at h
      unfold forGo at h
      simp only [lo, if_true] at h
      refine ⟨W3, ρ', d, rfl, s3, rd, ?_⟩
      cases q : putT T d ρ' with
      | exc _ _ => simp only [q] at h; exact h.elim
      | stuck => simp only [q] at h; exact h.elim
      | ok u ρ2 =>
        simp only [q] at h
        intro W4 σ2 a4 s4 f4 _
        refine ⟨W4, ρ2, rfl, s4, ?_⟩
        have f2 : FK (L ++ F) σ σ2 := f.trans fun j hj => f4 j fun z => hT j z hj
        have up : Ext W W4 := a1.trans (b.trans (a3.trans a4))
        have fin : ∀ {ρ3 : List Slot}, PoS g E F W σ D (forGo T m1 w.lock (w.items.drop (k + 1)) ρ3) → ∀ W5 σ5, Ext W4 W5 → SO g W5 σ5 ρ3 → FK (L ++ F) σ2 σ5 → ∃ W' ρ', W'.H = W5.H ∧ Ext W1 W' ∧ SO g W' σ5 ρ' ∧ FK (L ++ F) σ σ5 ∧ PoS g E F W σ D (forGo T m1 w.lock (w.items.drop (k + 1)) ρ') :=
          fun {ρ3} h W5 σ5 a5 s5 f5 => ⟨W5, ρ3, rfl, b.trans (a3.trans (a4.trans a5)), s5, f2.trans f5, h⟩
        have sub : ∀ {σ5 : L2.St}, FK (L ++ F) σ2 σ5 → FK F σ σ5 := fun f5 i hi => (f2.trans f5) i (List.mem_append_right _ hi)
        cases z : m1 ρ2 with
        | stuck => simp only [z] at h; exact h.elim
        | exc ex ρ3 => simp only [z] at h; exact fun cls od σ5 W5 a5 s5 x => h cls od σ5 W5 (up.trans a5) s5 x
        | ok fl ρ3 =>
          simp only [z] at h
          cases fl with
          | nx => exact fun W5 σ5 a5 s5 f5 => fin h W5 σ5 a5 s5 f5
          | cnt => exact fun W5 σ5 a5 s5 f5 => fin h W5 σ5 a5 s5 f5
          | brk => exact fun W5 σ5 a5 s5 f5 => h W5 σ5 (up.trans a5) s5 (sub f5)
          | ret r => exact fun W5 σ5 a5 s5 f5 => h W5 σ5 (up.trans a5) s5 (sub f5)
    · rintro σ' H' ⟨W', ρ', e, b, s', f, h⟩
      subst e
      have lo := forGo_lock h
      rw [List.drop_length] at h
      unfold forGo at h
      simp only [lo, if_true] at h
      exact h W' σ' (a1.trans b) s' fun i hi => f i (List.mem_append_right _ hi)
  · simp only [c, Bool.false_eq_true, if_false] at hp
    exact hp.elim
theorem s_whl (hpo : PassesOwn (model X.prog X.w) X.A X.env X.xe) (hcT : PT X c (rdT g E mt)) (hb : PSs X a (rdS g E F m1)) (n : Nat) : PS X (.While c a [] pos) (rdS g E F (whlGo mt m1 n)) := by
  refine (ps_while hpo hcT hb).weaken fun D σ H ⟨W, ρ, eH, so, hp⟩ => ?_
  subst eH
  refine ⟨fun m σ' H' => ∃ W' ρ', W'.H = H' ∧ Ext W W' ∧ SO g W' σ' ρ' ∧ FK F σ σ' ∧ PoS g E F W σ D (whlGo mt m1 m ρ'), ⟨n, W, ρ, rfl, Ext.refl W, so, FK.refl F σ, hp⟩, ?_⟩
  rintro m σ' H' ⟨W', ρ', e, b, s', f, h⟩
  subst e
  cases m with
  | zero => exact h.elim
  | succ m =>
    unfold whlGo at h
    refine rdS_bindT b s' h fun k ρ1 W1 a1 b1 s1 h => ?_
    cases k with
    | false =>
      simp only [Bool.false_eq_true, if_false] at h ⊢
      exact h W1 σ' a1 s1 f
    | true =>
      simp only [if_true] at h ⊢
      refine ⟨fun σ2 H2 => ∃ W2 ρ2, W2.H = H2 ∧ Ext W W2 ∧ SO g W2 σ2 ρ2 ∧ FK F σ σ2 ∧ PoS g E F W σ D (whlGo mt m1 m ρ2), fun σ2 H2 h2 => ⟨m, Nat.lt_succ_self m, h2⟩, W1, ρ1, rfl, s1, ?_⟩
      unfold M.bind at h
      cases z : m1 ρ1 with
      | stuck => rw [z] at h; exact h.elim
      | exc ex ρ3 => rw [z] at h; exact fun cls od σ5 W5 a5 s5 x => h cls od σ5 W5 (a1.trans a5) s5 x
      | ok fl ρ3 =>
        rw [z] at h
        cases fl with
        | nx => exact fun W5 σ5 a5 s5 f5 => ⟨W5, ρ3, rfl, a1.trans a5, s5, f.trans f5, h⟩
        | cnt => exact fun W5 σ5 a5 s5 f5 => ⟨W5, ρ3, rfl, a1.trans a5, s5, f.trans f5, h⟩
        | brk => exact fun W5 σ5 a5 s5 f5 => h W5 σ5 (a1.trans a5) s5 (f.trans f5)
        | ret r => exact fun W5 σ5 a5 s5 f5 => h W5 σ5 (a1.trans a5) s5 (f.trans f5)
end
end PV
set_option Elab.async false
set_option linter.all false
set_option autoImplicit false
set_option maxRecDepth 100000
set_option maxHeartbeats 1000000
/-! PV: calls. -/
namespace PV
open PySem PySem.Spec PyProof.Rows L2
/-- what a caller wants of a def -/
def PoF (g : Gh) (W : Wd) (σ : L2.St) (Q : VK) (E : XK) : FR → Prop
  | .ok r as' => ∀ W' v, Ext W W' → SO g W' σ as' → RetOk g W' v r → Q v W'.H
  | .exc e as' => ∀ cls od W', Ext W W' → SO g W' σ as' → ExOk g W' e cls od → E cls od W'.H
  | .stuck => False
/-- a def of the module does what is read -/
def VFn (P : Program) (w : World) (K : Frg) (mg : Str → Option Value) (base : Heap) (k : Nat) (f : Addr) (S : FSem) : Prop :=
  ∀ (A : Around) (outer : List Env) (s : Shared) (W : Wd) (us ws : List Value) (vs zs : List V) (as : List Slot) (ks : List Str) (ds : List PyData) (pa : Nat → Addr) (Q : VK) (E : XK),
    Room k A → A.guards = some [] → Env0 P w K mg base A outer s W.H → Vals vs us → Vals zs ws → ks.length = zs.length → SO ⟨K, mg, pa, W.H⟩ W (vs.map some) as → RpAll K W.G zs ds → PoF ⟨K, mg, pa, W.H⟩ W (vs.map some) Q E (S as (ks.zip ds)) →
    codeAny (model P w) A (.call (.ref f) ⟨us, ks.zip ws⟩) (CR (L2.CX P w) outer P w W.H s Q E) s
theorem VFn.mono {P : Program} {w : World} {K : Frg} {mg : Str → Option Value} {base : Heap} {j k : Nat} {f : Addr} {S : FSem} (h : VFn P w K mg base j f S) (hk : j ≤ k) : VFn P w K mg base k f S :=
  fun A outer s W us ws vs zs as ks ds pa Q E r => h A outer s W us ws vs zs as ks ds pa Q E (r.mono hk)
/-! ### handing over -/
theorem argsOf_at {ρ : List Slot} : ∀ {k : Nat} {rs : List Rv} {as : List Slot}, argsOf ρ k rs = some as → as.length = rs.length ∧ ∀ (j : Nat) (s : Slot), as[j]? = some s → ∃ r, rs[j]? = some r ∧ argOf ρ (k + j) r = some s
  | k, [], as, h => by
    cases h
    exact ⟨rfl, fun j s e => by simp at e⟩
  | k, r :: rs, as, h => by
    unfold argsOf at h
    split at h
    · rename_i s ss h1 h2
      cases h
      obtain ⟨l, ih⟩ := argsOf_at h2
      refine ⟨by simp [l], fun j t e => ?_⟩
      cases j with
      | zero =>
        have e : s = t := by simpa using e
        subst e
        exact ⟨r, rfl, h1⟩
      | succ j =>
        obtain ⟨r', k1, k2⟩ := ih j t (by simpa using e)
        exact ⟨r', by simpa using k1, by rw [Nat.add_assoc, Nat.add_comm 1 j] at k2; exact k2⟩
    · cases h
theorem backOf_at : ∀ {rs : List Rv} {ss : List Slot} {ρ ρ' : List Slot}, backOf rs ss ρ = some ρ' → ρ'.length = ρ.length ∧ ∀ (t : Nat) (s : Slot), ρ'[t]? = some s →
    (∃ (j : Nat) (pin q : Option Nat) (m0 m : Mv), rs[j]? = some (.bor t) ∧ ρ[t]? = some (.own pin m0) ∧ ss[j]? = some (.own q m) ∧ s = .own pin m) ∨ (ρ[t]? = some s ∧ ((∃ pin m, s = .own pin m) → ∀ j : Nat, rs[j]? ≠ some (.bor t)))
  | [], ss, ρ, ρ', h => by
    cases ss with
    | nil =>
      cases h
      exact ⟨rfl, fun t s e => .inr ⟨e, fun _ j z => by simp at z⟩⟩
    | cons _ _ => cases h
  | r :: rs, [], ρ, ρ', h => by cases r <;> cases h
  | r :: rs, s0 :: ss, ρ, ρ', h => by
    have skip : backOf rs ss ρ = some ρ' → (∀ i pin m, r = .bor i → ρ[i]? ≠ some (.own pin m)) → ρ'.length = ρ.length ∧ ∀ (t : Nat) (s : Slot), ρ'[t]? = some s →
        (∃ (j : Nat) (pin q : Option Nat) (m0 m : Mv), (r :: rs)[j]? = some (.bor t) ∧ ρ[t]? = some (.own pin m0) ∧ (s0 :: ss)[j]? = some (.own q m) ∧ s = .own pin m) ∨ (ρ[t]? = some s ∧ ((∃ pin m, s = .own pin m) → ∀ j : Nat, (r :: rs)[j]? ≠ some (.bor t))) := fun h nb => by
      obtain ⟨l, ih⟩ := backOf_at h
      refine ⟨l, fun t s e => ?_⟩
      rcases ih t s e with ⟨j, pin, q, m0, m, k1, k2, k3, k4⟩ | ⟨k1, k2⟩
      · exact .inl ⟨j + 1, pin, q, m0, m, by simpa using k1, k2, by simpa using k3, k4⟩
      · refine .inr ⟨k1, fun ⟨pin, m, z⟩ j y => ?_⟩
        cases j with
        | zero =>
          have y : r = .bor t := by simpa using y
          exact nb t pin m y (by rw [k1, z])
        | succ j => exact k2 ⟨pin, m, z⟩ j (by simpa using y)
    cases r with
    | val d => exact skip h fun i pin m z => by cases z
    | fr m => exact skip h fun i pin m z => by cases z
    | st t => exact skip h fun i pin m z => by cases z
    | bor i =>
      unfold backOf at h
      split at h
      · rename_i pin m0 q m hq
        obtain ⟨l, ih⟩ := backOf_at h
        have il : i < ρ.length := (List.getElem?_eq_some_iff.mp hq).1
        refine ⟨by rw [l, List.length_set], fun t s e => ?_⟩
        rcases ih t s e with ⟨j, pin', q', m0', m', k1, k2, k3, k4⟩ | ⟨k1, k2⟩
        · rcases set_cases k2 with ⟨e1, e2⟩ | ⟨e1, e2⟩
          · subst e1
            cases e2
            exact .inl ⟨j + 1, pin, q', m0, m', by simpa using k1, hq, by simpa using k3, k4⟩
          · exact .inl ⟨j + 1, pin', q', m0', m', by simpa using k1, e2, by simpa using k3, k4⟩
        · rcases set_cases k1 with ⟨e1, e2⟩ | ⟨e1, e2⟩
          · subst e1 e2
            exact .inl ⟨0, pin, q, m0, m, rfl, hq, rfl, rfl⟩
          · refine .inr ⟨e2, fun w j y => ?_⟩
            cases j with
            | zero =>
              have y : Rv.bor i = .bor t := by simpa using y
              cases y
              exact e1 rfl
            | succ j => exact k2 w j (by simpa using y)
      · cases h
      · rename_i hn1 hn2
        refine skip h fun j pin m z y => ?_
        cases z
        exact hn1 pin m y
theorem RvsOk.at {g : Gh} {W0 W : Wd} {σ : L2.St} {vs : List V} {rs : List Rv} (h : RvsOk g W0 W σ vs rs) : ∀ {j : Nat} {r : Rv}, rs[j]? = some r → ∃ v, vs[j]? = some v ∧ RvOk g W0 W σ v r := by
  induction h with
  | nil => intro j r e; simp at e
  | cons h _ _ ih =>
    intro j r e
    cases j with
    | zero =>
      simp at e
      subst e
      exact ⟨_, rfl, h⟩
    | succ j =>
      obtain ⟨v, k1, k2⟩ := ih (by simpa using e)
      exact ⟨v, by simpa using k1, k2⟩
/-- new things are apart -/
theorem RvsOk.apart {g : Gh} {W0 W : Wd} {σ : L2.St} {vs : List V} {rs : List Rv} (h : RvsOk g W0 W σ vs rs) : ∀ {i j : Nat} {m m' : Mv} {v : V}, rs[i]? = some (.fr m) → rs[j]? = some (.fr m') → vs[i]? = some v → vs[j]? = some v → i = j := by
  induction h with
  | nil => intro i j m m' v e; simp at e
  | cons h _ n ih =>
    intro i j m m' v e1 e2 e3 e4
    cases i with
    | zero =>
      cases j with
      | zero => rfl
      | succ j =>
        simp at e1 e3
        subst e1 e3
        exact absurd (by simpa using e4) (n m rfl j m' (by simpa using e2))
    | succ i =>
      cases j with
      | zero =>
        simp at e2 e4
        subst e2 e4
        exact absurd (by simpa using e3) (n m' rfl i m (by simpa using e1))
      | succ j => exact congrArg Nat.succ (ih (by simpa using e1) (by simpa using e2) (by simpa using e3) (by simpa using e4))
theorem borNodup_inj {ρ : List Slot} {rs : List Rv} (h : borNodup ρ rs = true) : ∀ {i j t : Nat} {pin : Option Nat} {m : Mv}, rs[i]? = some (.bor t) → rs[j]? = some (.bor t) → ρ[t]? = some (.own pin m) → i = j := by
  unfold borNodup at h
  replace h := of_decide_eq_true h
  induction rs with
  | nil => intro i j t pin m e; simp at e
  | cons r rs ih =>
    intro i j t pin m e1 e2 e3
    have mem : ∀ {j : Nat}, rs[j]? = some (.bor t) → t ∈ rs.filterMap fun r => match r with | .bor i => (match ρ[i]? with | some (.own _ _) => some i | _ => none) | _ => none := fun {j} hj => List.mem_filterMap.mpr ⟨.bor t, List.mem_of_getElem? hj, by simp [e3]⟩
    have tl : (rs.filterMap fun r => match r with | .bor i => (match ρ[i]? with | some (.own _ _) => some i | _ => none) | _ => none).Nodup := by
      rw [List.filterMap_cons] at h
      split at h
      · exact h
      · exact (List.nodup_cons.mp h).2
    have hd : r = .bor t → t ∉ rs.filterMap fun r => match r with | .bor i => (match ρ[i]? with | some (.own _ _) => some i | _ => none) | _ => none := fun e => by
      subst e
      rw [List.filterMap_cons] at h
      simp only [e3] at h
      exact (List.nodup_cons.mp h).1
    cases i with
    | zero =>
      cases j with
      | zero => rfl
      | succ j => exact absurd (mem (by simpa using e2)) (hd (by simpa using e1))
    | succ i =>
      cases j with
      | zero => exact absurd (mem (by simpa using e1)) (hd (by simpa using e2))
      | succ j => exact congrArg Nat.succ (ih tl (by simpa using e1) (by simpa using e2) e3)
def refOf : Option V → Addr
  | some (.ref p) => p
  | _ => 0
/-- the things handed over -/
def handO (vs : List V) (as : List Slot) (p : Addr) : Prop := ∃ (j : Nat) (pin : Option Nat) (m : Mv), as[j]? = some (.own pin m) ∧ vs[j]? = some (.ref p)
section
variable {g : Gh} {W0 W : Wd} {σ : L2.St} {ρ : List Slot} {vs : List V} {rs : List Rv} {as : List Slot}
/-- a thing of one's own among the arguments -/
theorem arg_own (rv : RvsOk g W0 W σ vs rs) (so : SO g W σ ρ) (ha : argsOf ρ 0 rs = some as) {j : Nat} {pin : Option Nat} {m : Mv} (e : as[j]? = some (.own pin m)) :
    pin = some j ∧ ∃ p, vs[j]? = some (.ref p) ∧ MvOk g.K W p m ∧ W.G p = none ∧ ((rs[j]? = some (.fr m) ∧ W0.H p = none ∧ ¬ W.O p) ∨ ∃ t q, rs[j]? = some (.bor t) ∧ ρ[t]? = some (.own q m) ∧ σ[t]? = some (some (.ref p)) ∧ W.O p) := by
  obtain ⟨_, at_⟩ := argsOf_at ha
  obtain ⟨r, hr, hs⟩ := at_ j _ e
  obtain ⟨v, hv, rk⟩ := rv.at hr
  rw [Nat.zero_add] at hs
  cases r with
  | val d => cases hs
  | st _ => cases hs
  | fr m' =>
    cases hs
    obtain ⟨p, e1, k2, k3, k4, k5⟩ := rk
    subst e1
    exact ⟨rfl, p, hv, k5, k4, .inl ⟨hr, k2, k3⟩⟩
  | bor t =>
    unfold argOf at hs
    cases q : ρ[t]? with
    | none => simp only [q] at hs; cases hs
    | some s =>
      cases s with
      | non => simp only [q] at hs; cases hs
      | st t => simp only [q] at hs; cases hs
      | val d => simp only [q] at hs; cases hs
      | own pin' m' =>
        simp only [q] at hs
        cases hs
        have rk : σ[t]? = some (some v) := rk
        obtain ⟨p, k1, k2, k3, _⟩ := so.slot q
        rw [rk] at k1
        cases k1
        exact ⟨rfl, p, hv, k3, (so.og p k2).1, .inr ⟨t, pin', hr, q, rk, k2⟩⟩
theorem arg_inj (rv : RvsOk g W0 W σ vs rs) (so : SO g W σ ρ) (bn : borNodup ρ rs = true) (ha : argsOf ρ 0 rs = some as) {i j : Nat} {a b : Option Nat} {m m' : Mv} {p : Addr} (e1 : as[i]? = some (.own a m)) (e2 : as[j]? = some (.own b m')) (h1 : vs[i]? = some (.ref p)) (h2 : vs[j]? = some (.ref p)) : i = j := by
  obtain ⟨_, p1, k1, _, _, c1⟩ := arg_own rv so ha e1
  obtain ⟨_, p2, k2, _, _, c2⟩ := arg_own rv so ha e2
  rw [h1] at k1
  rw [h2] at k2
  cases k1
  cases k2
  rcases c1 with ⟨x1, x2, x3⟩ | ⟨t, q, x1, x2, x3, x4⟩
  · rcases c2 with ⟨y1, y2, y3⟩ | ⟨t, q, y1, y2, y3, y4⟩
    · exact rv.apart x1 y1 h1 h2
    · exact absurd y4 x3
  · rcases c2 with ⟨y1, y2, y3⟩ | ⟨t', q', y1, y2, y3, y4⟩
    · exact absurd x4 y3
    · have e := so.inj t t' _ _ _ _ p x2 y2 x3 y3
      subst e
      exact borNodup_inj bn x1 y1 x2
/-- the callee's world at its entry -/
theorem call_in (rv : RvsOk g W0 W σ vs rs) (so : SO g W σ ρ) (bn : borNodup ρ rs = true) (ha : argsOf ρ 0 rs = some as) : SO ⟨g.K, g.mg, fun j => refOf vs[j]?, W.H⟩ ⟨W.H, W.G, handO vs as⟩ (vs.map some) as := by
  obtain ⟨al, at_⟩ := argsOf_at ha
  have keep : ∀ {p : Addr} {m : Mv}, MvOk g.K W p m → MvOk g.K ⟨W.H, W.G, handO vs as⟩ p m := fun {p m} h => by cases m <;> exact h
  refine ⟨so.gh, fun p ⟨j, pin, m, e1, e2⟩ => ?_, fun p h => h, by rw [al, List.length_map, rv.length], fun j s e => ?_, fun i j a b m m' p e1 e2 h1 h2 => ?_⟩
  · obtain ⟨_, p', k1, k2, k3, _⟩ := arg_own rv so ha e1
    rw [e2] at k1
    cases k1
    exact ⟨k3, k2.some⟩
  · cases s with
    | non => trivial
    | own pin m =>
      obtain ⟨e1, p, k1, k2, k3, k4⟩ := arg_own rv so ha e
      subst e1
      refine ⟨p, by rw [List.getElem?_map, k1]; rfl, ⟨j, _, m, e, k1⟩, keep k2, ?_⟩
      show refOf vs[j]? = p
      rw [k1]
      rfl
    | st tt =>
      obtain ⟨r, hr, hs⟩ := at_ j _ e
      obtain ⟨v, hv, rk⟩ := rv.at hr
      refine ⟨v, by rw [List.getElem?_map, hv]; rfl, ?_⟩
      cases r with
      | st t' => cases hs; exact rk
      | val _ => cases hs
      | fr m' => cases hs
      | bor t =>
        unfold argOf at hs
        cases q : ρ[t]? with
        | none => simp only [q] at hs; cases hs
        | some s => cases s <;> (simp only [q] at hs; cases hs)
    | val d =>
      obtain ⟨r, hr, hs⟩ := at_ j _ e
      obtain ⟨v, hv, rk⟩ := rv.at hr
      refine ⟨v, by rw [List.getElem?_map, hv]; rfl, ?_⟩
      cases r with
      | val d' => cases hs; exact rk
      | fr m' => cases hs
      | st _ => cases hs
      | bor t =>
        have rk : σ[t]? = some (some v) := rk
        unfold argOf at hs
        cases q : ρ[t]? with
        | none => simp only [q] at hs; cases hs
        | some s =>
          cases s with
          | non => simp only [q] at hs; cases hs
          | st t => simp only [q] at hs; cases hs
          | own pin' m' => simp only [q] at hs; cases hs
          | val d' =>
            simp only [q] at hs
            cases hs
            obtain ⟨v', k1, k2⟩ := so.slot q
            rw [rk] at k1
            cases k1
            exact k2
  · have d : ∀ {i : Nat}, (vs.map some)[i]? = some (some (.ref p)) → vs[i]? = some (.ref p) := fun {i} h => by
      rw [List.getElem?_map] at h
      cases q : vs[i]? with
      | none => rw [q] at h; cases h
      | some v => rw [q] at h; simpa using h
    exact arg_inj rv so bn ha e1 e2 (d h1) (d h2)
/-- the caller's world behind it -/
theorem call_out (a : Ext W0 W) (rv : RvsOk g W0 W σ vs rs) (so : SO g W σ ρ) (bn : borNodup ρ rs = true) (ha : argsOf ρ 0 rs = some as) {W' : Wd} {as' ρ' : List Slot} (e : Ext ⟨W.H, W.G, handO vs as⟩ W')
    (so' : SO ⟨g.K, g.mg, fun j => refOf vs[j]?, W.H⟩ W' (vs.map some) as') (hb : backOf rs as' ρ = some ρ') : Ext W0 ⟨W'.H, W'.G, W.O⟩ ∧ SO g ⟨W'.H, W'.G, W.O⟩ σ ρ' := by
  obtain ⟨bl, back⟩ := backOf_at hb
  -- what was handed over and is not new here
  have hand : ∀ {p : Addr}, handO vs as p → W0.H p = none ∨ W.O p := fun {p} ⟨j, pin, m, e1, e2⟩ => by
    obtain ⟨_, p', k1, _, _, c⟩ := arg_own rv so ha e1
    rw [e2] at k1
    cases k1
    rcases c with ⟨_, c, _⟩ | ⟨_, _, _, _, _, c⟩
    · exact .inl c
    · exact .inr c
  have ext : Ext W0 ⟨W'.H, W'.G, W.O⟩ := by
    have nh : ∀ p, W0.H p ≠ none → ¬ W0.O p → ¬ handO vs as p := fun p h1 h2 h3 => by
      rcases hand h3 with z | z
      · exact h1 z
      · rcases a.ow p z with y | y
        · exact h2 y
        · exact h1 y
    exact ⟨a.fz.trans e.fz, fun p o h n => e.fr p o (a.fr p o h n) (nh p (by rw [h]; simp) n), a.ow, fun p h1 h2 h3 => e.gn p (a.gn p h1 h2 h3) (a.tr p h2) (nh p h2 h3), fun p h => e.tr p (a.tr p h)⟩
  have keep : ∀ {p : Addr} {m : Mv}, MvOk g.K W' p m → MvOk g.K ⟨W'.H, W'.G, W.O⟩ p m := fun {p m} h => by cases m <;> exact h
  -- an own slot of ours
  have slot : ∀ {t : Nat} {pin : Option Nat} {m : Mv}, ρ'[t]? = some (.own pin m) → ∃ m0, ρ[t]? = some (.own pin m0) := fun {t pin m} h => by
    rcases back t _ h with ⟨j, pin', q, m0, m', k1, k2, k3, k4⟩ | ⟨k1, _⟩
    · cases k4; exact ⟨m0, k2⟩
    · exact ⟨m, k1⟩
  refine ⟨ext, ⟨so'.gh, fun p h => ?_, fun p h => e.tr p (so.bt p h), by rw [bl]; exact so.len, fun t s h => ?_, fun i j x y m m' p e1 e2 h1 h2 => ?_⟩⟩
  · refine ⟨?_, e.tr p (so.og p h).2⟩
    by_cases c : handO vs as p
    · obtain ⟨j, pin, m, e1, e2⟩ := c
      obtain ⟨_, p', k1, _, _, c⟩ := arg_own rv so ha e1
      rw [e2] at k1
      cases k1
      rcases c with ⟨_, _, c⟩ | ⟨t, q, x1, x2, x3, x4⟩
      · exact absurd h c
      · have tl : t < ρ'.length := by rw [bl]; exact (List.getElem?_eq_some_iff.mp x2).1
        rcases back t _ (List.getElem?_eq_getElem tl) with ⟨j2, pin', q', m0, m', k1, k2, k3, k4⟩ | ⟨k1, k2⟩
        · have ej : j2 = j := borNodup_inj bn k1 x1 k2
          subst ej
          obtain ⟨p', l1, l2, _⟩ := so'.slot k3
          rw [List.getElem?_map, e2] at l1
          cases l1
          exact (so'.og p l2).1
        · rw [x2] at k1
          exact absurd x1 (k2 ⟨q, m, (Option.some.inj k1).symm⟩ j)
    · exact e.gn p (so.og p h).1 (so.og p h).2 c
  · rcases back t s h with ⟨j, pin, q, m0, m, k1, k2, k3, k4⟩ | ⟨k1, k2⟩
    · subst k4
      obtain ⟨p, l1, l2, l3, l4⟩ := so.slot k2
      obtain ⟨v, hv, rk⟩ := rv.at k1
      have rk : σ[t]? = some (some v) := rk
      rw [rk] at l1
      cases l1
      obtain ⟨p', n1, n2, n3, _⟩ := so'.slot k3
      rw [List.getElem?_map, hv] at n1
      cases n1
      exact ⟨p, rk, l2, keep n3, l4⟩
    · have sl := so.slot k1
      cases s with
      | non => trivial
      | val d => obtain ⟨v, l1, l2⟩ := sl; exact ⟨v, l1, Rp.mono e.fz l2⟩
      | st _ => obtain ⟨v, l1, l2⟩ := sl; exact ⟨v, l1, StOk.mono e.fz l2⟩
      | own pin m =>
        obtain ⟨p, l1, l2, l3, l4⟩ := sl
        refine ⟨p, l1, l2, ?_, l4⟩
        have nh : ¬ handO vs as p := fun ⟨j, pin', m', e1, e2⟩ => by
          obtain ⟨_, p', n1, _, _, c⟩ := arg_own rv so ha e1
          rw [e2] at n1
          cases n1
          rcases c with ⟨_, _, c⟩ | ⟨t', q, x1, x2, x3, x4⟩
          · exact c l2
          · have et := so.inj t t' _ _ _ _ p k1 x2 l1 x3
            subst et
            exact k2 ⟨pin, m, rfl⟩ j x1
        have l3' : MvOk g.K ⟨W.H, W.G, handO vs as⟩ p m := by cases m <;> exact l3
        exact keep (l3'.keep (g := g) e nh)
  · obtain ⟨m3, z1⟩ := slot e1
    obtain ⟨m4, z2⟩ := slot e2
    exact so.inj i j x y m3 m4 p z1 z2 h1 h2
end
end PV
set_option Elab.async false
set_option linter.all false
set_option autoImplicit false
set_option maxRecDepth 100000
set_option maxHeartbeats 1000000
/-! PV: the call's rule. -/
namespace PV
open PySem PySem.Spec PyProof.Rows L2
/-- what the arguments must lead to -/
def KcP (K : Frg) (mg : Str → Option Value) (S : FSem) (ks : List Str) (E : XK) (Q : VK) (vs zs : List V) (H : Hp) : Prop :=
  ∃ (W : Wd) (as : List Slot) (ds : List PyData) (pa : Nat → Addr), W.H = H ∧ ks.length = zs.length ∧ SO ⟨K, mg, pa, W.H⟩ W (vs.map some) as ∧ RpAll K W.G zs ds ∧ PoF ⟨K, mg, pa, W.H⟩ W (vs.map some) Q E (S as (ks.zip ds))
def tCallV (K : Frg) (mg : Str → Option Value) (S : FSem) (ks : List Str) (E : WX) (ta tk : TA) : TE := fun σ H Q => ta σ H fun vs H1 => tk σ H1 fun zs H2 => KcP K mg S ks (fun c d H' => E c d σ H') Q vs zs H2
section
variable {X : Cx} {g : Gh} {E : WX} {k : Nat} {f : Addr} {S : FSem} {x : Str} {p pos : Pos} {e : Expr} {es : List Expr} {kws : List Keyword} {ks : List Str} {ta tk : TA} {ms mk : M (List Rv)}
theorem run_V {pins : List (Addr × Obj)} {s : Shared} {σ : L2.St} {H : Hp} {Q : VK} {vs zs : List V} {us ws : List Value} (hv : VFn X.prog X.w X.K X.mg X.base k f S) (hr : Room k X.A) (hgd : X.A.guards = some []) (tk : Takes X E) (I : Inv X pins σ H s) (r : Vals vs us) (rz : Vals zs ws)
    (h : KcP X.K X.mg S ks (fun c d H' => E c d σ H') Q vs zs H) : wpAny (model X.prog X.w) X.A (call (.ref f) us (ks.zip ws)) (EP X pins σ Q) X.xe s := by
  obtain ⟨W, as, ds, pa, eH, hl, so, rp, po⟩ := h
  subst eH
  refine wpAny_call (codeAny_mono (hv X.A X.stack s W us ws vs zs as ks ds pa Q _ hr hgd I.env0 r rz hl so rp po) fun res s' hq => ?_)
  cases res with
  | error u => exact tk u s' (XE.of_call I (fun _ _ _ h => h) hq)
  | ok fl =>
    cases fl with
    | ret u => exact I.after hq
    | next => exact hq.elim
    | brk => exact hq.elim
    | cont => exact hq.elim
theorem pe_callV (hv : VFn X.prog X.w X.K X.mg X.base k f S) (hr : Room k X.A) (hgd : X.A.guards = some []) (tkx : Takes X E) (hg : Gl X x) (hm : X.mg x = some (.ref f)) (hk : PySem.W.keepIn X.K (.ref f) = true)
    (ha : PA X (e :: es) ta) (hkw : PK X kws tk) (hall : (backToKw pos (keywordEach kws X.env)).all (·.1.isSome) = true) (hks : (backToKw pos (keywordEach kws X.env)).filterMap (·.1) = ks) (hdb : (x == ("__debug__" : Str)) = false)
    (he : starEach (e :: es) X.env = (false, eval e X.env) :: starEach es X.env) (hpl : ((backTo pos (starEach (e :: es) X.env)).any (·.1) || (backToKw pos (keywordEach kws X.env)).any (·.1.isNone)) = false) :
    PE X (.Call (.Name x p) (e :: es) kws pos) (tCallV X.K X.mg S ks E ta tk) := ⟨fun pins s σ H Q I h => by
  refine wpAny_Call_Name_kw (ld_glob I hg hm ?_ hdb)
  refine PySem.W.callWith_KW (h₀ := X.base) I.ok.mod.kin hk hall (thn (ha.run pos pins s σ H _ I h) fun us s1 ⟨vs, H1, I1, r, q⟩ => thn (hkw.run pos pins s1 σ H1 _ I1 q) fun ws s2 ⟨zs, H2, I2, rz, q2⟩ => ⟨I2.kIn, ?_⟩) hpl he
  rw [hks]
  exact run_V hv hr hgd tkx I2 r rz q2⟩
theorem pe_callV0 (hv : VFn X.prog X.w X.K X.mg X.base k f S) (hr : Room k X.A) (hgd : X.A.guards = some []) (tkx : Takes X E) (hg : Gl X x) (hm : X.mg x = some (.ref f)) (hk : PySem.W.keepIn X.K (.ref f) = true)
    (hkw : PK X kws tk) (hall : (backToKw pos (keywordEach kws X.env)).all (·.1.isSome) = true) (hks : (backToKw pos (keywordEach kws X.env)).filterMap (·.1) = ks) (hdb : (x == ("__debug__" : Str)) = false)
    (hpl : ((backTo pos (starEach [] X.env)).any (·.1) || (backToKw pos (keywordEach kws X.env)).any (·.1.isNone)) = false) :
    PE X (.Call (.Name x p) [] kws pos) (tCallV X.K X.mg S ks E tNil tk) := ⟨fun pins s σ H Q I h => by
  refine wpAny_Call_Name_kw (ld_glob I hg hm ?_ hdb)
  refine PySem.W.callWith_KW0 (h₀ := X.base) I.ok.mod.kin hk hall (thn (hkw.run pos pins s σ H _ I h) fun ws s2 ⟨zs, H2, I2, rz, q2⟩ => ⟨I2.kIn, ?_⟩) hpl
  rw [hks]
  exact run_V hv hr hgd tkx I2 .nil rz q2⟩
theorem valsOf_ok {W0 W : Wd} {σ : L2.St} {vs : List V} {rs : List Rv} (h : RvsOk g W0 W σ vs rs) {ds : List PyData} (e : valsOf rs = some ds) : RpAll g.K W.G vs ds := by
  induction h generalizing ds with
  | nil => cases e; exact .nil
  | @cons v vs r rs h _ _ ih =>
    cases r with
    | val d =>
      unfold valsOf at e
      cases q : valsOf rs with
      | none => rw [q] at e; cases e
      | some ds' => rw [q] at e; cases e; exact .cons h (ih q)
    | fr m => cases e
    | bor i => cases e
    | st t => cases e
/-- from the reading -/
theorem kc_of {W W0 W2 : Wd} {σ : L2.St} {ρ2 : List Slot} {vs zs : List V} {rs : List Rv} {ds : List PyData} {Q : VK} (a2 : Ext W W2) (s2 : SO g W2 σ ρ2) (rvs : RvsOk g W W2 σ vs rs) (rz : RpAll g.K W2.G zs ds) (hl : ks.length = zs.length)
    (hp : Po g E W σ (fun r W' => ∀ v, RvOk g W W' σ v r → Q v W'.H) (callM S rs ks ds ρ2)) : KcP g.K g.mg S ks (fun c d H' => E c d σ H') Q vs zs W2.H := by
  unfold callM at hp
  cases bn : borNodup ρ2 rs with
  | false => simp only [bn] at hp; exact hp.elim
  | true =>
  cases ha : argsOf ρ2 0 rs with
  | none => simp only [bn, ha] at hp; exact hp.elim
  | some as =>
  simp only [bn, ha] at hp
  have ci := call_in rvs s2 bn ha
  refine ⟨⟨W2.H, W2.G, handO vs as⟩, as, ds, fun j => refOf vs[j]?, rfl, hl, ci, rz, ?_⟩
  cases hS : S as (ks.zip ds) with
  | stuck => rw [hS] at hp; exact hp.elim
  | exc x as' =>
    simp only [hS] at hp
    cases hb : backOf rs as' ρ2 with
    | none => simp only [hb] at hp; exact hp.elim
    | some ρ' =>
      simp only [hb] at hp
      intro cls od W' e1 so1 ex
      obtain ⟨k1, k2⟩ := call_out a2 rvs s2 bn ha e1 so1 hb
      exact hp cls od ⟨W'.H, W'.G, W2.O⟩ k1 k2 ex
  | ok r as' =>
    simp only [hS] at hp
    cases hb : backOf rs as' ρ2 with
    | none => simp only [hb] at hp; exact hp.elim
    | some ρ' =>
      intro W' v e1 so1 ret
      obtain ⟨k1, k2⟩ := call_out a2 rvs s2 bn ha e1 so1 hb
      cases r with
      | bor i => exact ret.elim
      | val d =>
        simp only [hb] at hp
        exact hp _ k1 k2 v ret
      | st t =>
        simp only [hb] at hp
        exact hp _ k1 k2 v ret
      | fr m =>
        simp only [hb] at hp
        obtain ⟨p, e2, h1, h2, h3, h4⟩ := ret
        have h1 : W2.H p = none := h1
        refine hp _ k1 k2 v ⟨p, e2, none_of_ext a2 h1, fun z => (s2.og p z).2 h1, h3, ?_⟩
        cases m <;> exact h4
theorem s_call (hK : X.K = g.K) (hmg : X.mg = g.mg) (hv : VFn X.prog X.w X.K X.mg X.base k f S) (hr : Room k X.A) (hgd : X.A.guards = some []) (tkx : Takes X E) (hg : Gl X x) (hm : X.mg x = some (.ref f)) (hk : PySem.W.keepIn X.K (.ref f) = true)
    (ha : PA X (e :: es) (rdL g E ms)) (hkw : PK X kws (rdL g E mk)) (hks : (keywordEach kws X.env).map (·.1) = ks.map some) (hdb : (x == ("__debug__" : Str)) = false)
    (he : starEach (e :: es) X.env = (false, eval e X.env) :: starEach es X.env) (hpl : (backTo pos (starEach (e :: es) X.env)).any (·.1) = false) (hlk : kws.length = ks.length) (hmk : ∀ ρ zs ρ', mk ρ = .ok zs ρ' → zs.length = ks.length) :
    PE X (.Call (.Name x p) (e :: es) kws pos) (rdE g E (M.bind ms fun rs => M.bind mk fun zs => M.bind (lift (valsOf zs)) fun ds => callM S rs ks ds)) := by
  have fs : (backToKw pos (keywordEach kws X.env)).map (·.1) = ks.map some := by
    rw [← hks]
    unfold backToKw
    rw [List.map_map]
    exact List.map_congr_left fun a _ => rfl
  have key : ∀ (l : List (Option Str × Sem Value)) (ks : List Str), l.map (·.1) = ks.map some → l.all (·.1.isSome) = true ∧ l.filterMap (·.1) = ks ∧ l.any (·.1.isNone) = false := by
    intro l
    induction l with
    | nil => intro ks h; cases ks with | nil => exact ⟨rfl, rfl, rfl⟩ | cons _ _ => cases h
    | cons a l ih =>
      intro ks h
      cases ks with
      | nil => cases h
      | cons k ks =>
        simp only [List.map_cons, List.cons.injEq] at h
        obtain ⟨i1, i2, i3⟩ := ih ks h.2
        obtain ⟨a1, a2⟩ := a
        have h1 : a1 = some k := h.1
        subst h1
        exact ⟨by simp [i1], by simp [i2], by simp [i3]⟩
  obtain ⟨f1, f2, f3⟩ := key _ _ fs
  refine (pe_callV hv hr hgd tkx hg hm hk ha hkw f1 f2 hdb he (by rw [hpl, f3]; rfl)).weaken fun σ H Q ⟨W, ρ, eH, so, hp⟩ => ?_
  subst eH
  unfold tCallV
  refine rd_bindL (Ext.refl W) so hp fun rs ρ1 W1 vs a1 _ s1 rvs hp => ?_
  refine ⟨W1, ρ1, rfl, s1, ?_⟩
  unfold M.bind at hp
  cases q : mk ρ1 with
  | exc ex ρ2 => rw [q] at hp; exact fun cls od W2 e2 s2 x => hp cls od W2 (a1.trans e2) s2 x
  | stuck => rw [q] at hp; exact hp
  | ok zs ρ2 =>
    rw [q] at hp
    intro W2 b2 s2 zv rvz
    obtain ⟨ds, ed, hp⟩ := po_lift hp
    have hl : ks.length = zv.length := by rw [rvz.length, hmk _ _ _ q]
    rw [hK, hmg]
    exact kc_of (W0 := W) (a1.trans b2) s2 (rvs.ext a1 b2) (valsOf_ok rvz ed) hl hp
theorem s_call0 (hK : X.K = g.K) (hmg : X.mg = g.mg) (hv : VFn X.prog X.w X.K X.mg X.base k f S) (hr : Room k X.A) (hgd : X.A.guards = some []) (tkx : Takes X E) (hg : Gl X x) (hm : X.mg x = some (.ref f)) (hk : PySem.W.keepIn X.K (.ref f) = true)
    (hkw : PK X kws (rdL g E mk)) (hks : (keywordEach kws X.env).map (·.1) = ks.map some) (hdb : (x == ("__debug__" : Str)) = false) (hmk : ∀ ρ zs ρ', mk ρ = .ok zs ρ' → zs.length = ks.length) :
    PE X (.Call (.Name x p) [] kws pos) (rdE g E (M.bind (M.pure []) fun rs => M.bind mk fun zs => M.bind (lift (valsOf zs)) fun ds => callM S rs ks ds)) := by
  have fs : (backToKw pos (keywordEach kws X.env)).map (·.1) = ks.map some := by
    rw [← hks]
    unfold backToKw
    rw [List.map_map]
    exact List.map_congr_left fun a _ => rfl
  have key : ∀ (l : List (Option Str × Sem Value)) (ks : List Str), l.map (·.1) = ks.map some → l.all (·.1.isSome) = true ∧ l.filterMap (·.1) = ks ∧ l.any (·.1.isNone) = false := by
    intro l
    induction l with
    | nil => intro ks h; cases ks with | nil => exact ⟨rfl, rfl, rfl⟩ | cons _ _ => cases h
    | cons a l ih =>
      intro ks h
      cases ks with
      | nil => cases h
      | cons k ks =>
        simp only [List.map_cons, List.cons.injEq] at h
        obtain ⟨i1, i2, i3⟩ := ih ks h.2
        obtain ⟨a1, a2⟩ := a
        have h1 : a1 = some k := h.1
        subst h1
        exact ⟨by simp [i1], by simp [i2], by simp [i3]⟩
  obtain ⟨f1, f2, f3⟩ := key _ _ fs
  refine (pe_callV0 hv hr hgd tkx hg hm hk hkw f1 f2 hdb (by rw [f3]; rfl)).weaken fun σ H Q ⟨W, ρ, eH, so, hp⟩ => ?_
  subst eH
  show rdL g E mk σ W.H _
  refine ⟨W, ρ, rfl, so, ?_⟩
  have hp : Po g E W σ (fun r W' => ∀ v, RvOk g W W' σ v r → Q v W'.H) (M.bind mk (fun zs => M.bind (lift (valsOf zs)) fun ds => callM S [] ks ds) ρ) := hp
  unfold M.bind at hp
  cases q : mk ρ with
  | exc ex ρ2 => rw [q] at hp; exact hp
  | stuck => rw [q] at hp; exact hp
  | ok zs ρ2 =>
    rw [q] at hp
    intro W2 b2 s2 zv rvz
    obtain ⟨ds, ed, hp⟩ := po_lift hp
    have hl : ks.length = zv.length := by rw [rvz.length, hmk _ _ _ q]
    rw [hK, hmg]
    exact kc_of (W0 := W) b2 s2 .nil (valsOf_ok rvz ed) hl hp
/-! ### keywords -/
theorem s_knil : PK X [] (rdL g E (M.pure [])) := ⟨fun pos pins s σ H Q I ⟨W, ρ, eH, so, hp⟩ => pk_nil.run pos pins s σ H Q I (by subst eH; exact hp W (Ext.refl W) so [] .nil)⟩
theorem s_kcons {nm : Option Str} {kpos : Pos} {ma : M Rv} (ha : PE X e (rdE g E ma)) (hr : PK X kws (rdL g E mk)) : PK X (⟨nm, e, kpos⟩ :: kws) (rdL g E (M.bind ma fun r => M.bind mk fun rs => M.pure (r :: rs))) :=
  ⟨fun pos pins s σ H Q I ⟨W, ρ, eH, so, hp⟩ => (pk_cons ha hr).run pos pins s σ H Q I (by
    subst eH
    refine rd_bind (Ext.refl W) so hp fun x ρ1 W1 vx a1 _ s1 rx hp => ?_
    refine rd_bindL a1 s1 hp fun rs ρ2 W2 vs a2 b2 s2 rvs hp => ?_
    exact hp W2 a2 s2 _ (RvsOk.push rx a1 b2 rvs))⟩
end
end PV
set_option Elab.async false
set_option linter.all false
set_option autoImplicit false
set_option maxRecDepth 100000
set_option maxHeartbeats 2000000
/-! PV: try, with a caught error that is kept. -/
namespace PV
open PySem PySem.Spec PyProof.Rows L2
theorem flying_kept {base h h' : Heap} {l : List Env} {e : Addr} {P : Obj → Prop} (k : ∀ b o, h.get? b = some o → h'.get? b = some o) (x : HandSPX.FlyingZ base l e P h) : HandSPX.FlyingZ base l e P h' := by
  obtain ⟨x1, x2, x3, oe, vs, T, oT, ts, x4, x5, x6, x7, x8, x9, x10, x11, x12⟩ := x
  exact ⟨fun b o q => k b o (x1 b o q), x2, Heap.FunFrames.of_keeps (fun b o q _ => ⟨o, k b o q, rfl⟩) x3, oe, vs, T, oT, ts, k _ _ x4, x5, x6, x7, x8, x9, k _ _ x10, x11, x12⟩
section
variable {X : Cx} {pins : List (Addr × Obj)} {σ : L2.St} {H : Hp} {s : Shared}
theorem excH_ok {P : Program} {w : World} {h : Heap} {a : Addr} {cls : Value} {d : Option Addr} {oe : Obj} {vs : Array Value} (ha : h.get? a = some oe) (hz : Zc cls d oe) (hd : oe.data = .fields vs) : ObjOk P w H h a (ExcH a cls d) :=
  ⟨⟨oe, vs, ha, hz, hd⟩, ⟨oe, ha⟩, fun h1 h2 ⟨o, us, y1, y2, y3⟩ k => ⟨o, us, k _ y1, y2, y3⟩⟩
/-- the caught error becomes a thing that is told of -/
theorem adopt (I : Inv X pins σ H s) {a : Addr} {oe : Obj} {vs : Array Value} {cls : Value} {d : Option Addr} (ha : s.heap.get? a = some oe) (hd : oe.data = .fields vs) (hz : Zc cls d oe) (na : H a = none) (nL : a ≠ X.env.locals)
    (h0 : X.s_0.heap.get? a = none) (np : ∀ p ∈ X.pn ++ pins, p.1 ≠ a) : Inv (X.suite a (X.pn ++ pins)) [] σ (upd H a (ExcH a cls d)) s := by
  have other : ∀ {b : Addr} {u : HO}, H b = some u → b ≠ a := fun {b u} q z => by rw [z, na] at q; cases q
  have old : ∀ {b : Addr} {o : Obj}, X.s_0.heap.get? b = some o → b ≠ a := fun {b o} q z => by rw [z, h0] at q; cases q
  refine ⟨I.ok.suite _ _, I.os, I.bare, ⟨I.base.keep, I.base.slot, fun b o q n hx => ?_, I.base.there, fun b xs q => ?_, fun b o u q => ?_, fun b ps q => ?_⟩, I.loc, I.cell, ?_, fun x c e => ?_, fun p hp => ?_, fun b u q => ?_, I.len⟩
  · rw [upd_ne (old q)]; exact I.base.free b o q n hx
  · have z := I.base.tups b xs q
    rw [upd_ne (other z)]; exact z
  · have z := I.base.frzs b o u q
    rw [upd_ne (other z)]; exact z
  · obtain ⟨m, z⟩ := I.base.tbls b ps q
    exact ⟨m, by rw [upd_ne (other z)]; exact z⟩
  · rw [upd_ne (Ne.symm nL)]; exact I.free
  · have nc : c ≠ a := fun z => by
      obtain ⟨v, o, e1, e2⟩ := I.cell x c e
      rw [z, ha] at e1
      cases e1
      rw [hd] at e2
      cases e2
    rw [upd_ne nc]; exact I.freeC x c e
  · have hp : p ∈ X.pn ++ pins := by simpa using hp
    obtain ⟨k1, k2, k3, k4, k5⟩ := I.pin p hp
    exact ⟨k1, by rw [upd_ne (np p hp)]; exact k2, k3, k4, k5⟩
  · by_cases e : b = a
    · subst e
      rw [upd_same] at q
      cases q
      exact excH_ok ha hz hd
    · rw [upd_ne e] at q
      exact (I.hok b u q).stay (fun c v _ z => z) (fun c z => by rw [upd_ne (other z)]; exact z) fun c xs z => by rw [upd_ne (other z)]; exact z
/-- the clause is left -/
theorem unsuite0 {a : Addr} (I : Inv (X.suite a (X.pn ++ pins)) [] σ H s) (ok : X.Ok) : Inv X pins σ H s :=
  ⟨ok, I.os, I.bare, I.base, I.loc, I.cell, I.free, I.freeC, fun p hp => I.pin p (by rw [List.append_nil]; exact hp), I.hok, I.len⟩
end
/-- a clause's test, as it is told -/
def TestOk (X : Cx) (t : Expr) (test : Value → Option Bool) : Prop := ∀ (a : Addr) (pn : List (Addr × Obj)) (σ : L2.St) (H : Hp) (s : Shared) (cls : Value) (b : Bool) (E Q : Value → Shared → Prop),
  Inv (X.suite a pn) [] σ H s → test cls = some b →
  (∀ (h' : Heap) (tk : Nat) (c : Value), (∀ b o, s.heap.get? b = some o → h'.get? b = some o) → (∀ e : Addr, PySem.W.Looks (model X.prog X.w) h' (typeOf (.ref e)) cls → PySem.W.Looks (model X.prog X.w) h' (excMatches (.ref e) c) b) → Q c { s with heap := h', toks := tk }) →
  wpAny (model X.prog X.w) (X.A.mark (some (.ref a))) (eval t X.env) Q E s
section
variable {X : Cx}
theorem test_ev {x : Str} {c : Value} {a : Addr} {pn : List (Addr × Obj)} {σ : L2.St} {H : Hp} {s : Shared} {E Q : Value → Shared → Prop} {p : Pos} (hn : Names X x c) (I : Inv (X.suite a pn) [] σ H s) (q : Q c s) :
    wpAny (model X.prog X.w) (X.A.mark (some (.ref a))) (eval (.Name x p) X.env) Q E s := by
  obtain ⟨hg, hdb, hm | ⟨hm, hv, hnn⟩⟩ := hn
  · exact ld_glob (X := X.suite a pn) I hg hm q hdb
  · exact ld_blt (X := X.suite a pn) I hg hm hv q hnn hdb
theorem test_one {x : Str} {c : Value} {p : Pos} (hn : Names X x c) : TestOk X (.Name x p) (fun cls => PySem.W.exmOne X.K cls c) := by
  intro a pn σ H s cls b E Q I hb q
  refine test_ev hn I (q s.heap s.toks c (fun _ _ z => z) fun e LT => PySem.W.exm_one I.kIn LT hb)
theorem test_two {x y : Str} {c d : Value} {p1 p2 pt : Pos} {k : Nat} (hx : Names X x c) (hy : Names X y d) : TestOk X (.Tuple [.Name x p1, .Name y p2] k pt) (fun cls => PySem.W.exmAny X.K cls [c, d]) := by
  intro a pn σ H s cls b E Q I hb q
  refine wpAny_Tuple_spliced (Calls.spliced_cons (test_ev hx I (Calls.spliced_cons (test_ev hy I (Calls.spliced_nil ⟨by rw [sizeLine_eq]; simp, ?_⟩)))))
  have kp : ∀ b o, s.heap.get? b = some o → (s.heap.push { cls := .type "tuple", data := .seq [c, d].toArray }).get? b = some o := fun b o z => Heap.get?_push_of_some _ z
  exact q _ s.toks _ kp fun e LT => PySem.W.exm_tup2 (I.kIn.keeps kp) LT (Heap.get?_push_size _ rfl) hb
theorem test_three {x y z : Str} {c d f : Value} {p1 p2 p3 pt : Pos} {k : Nat} (hx : Names X x c) (hy : Names X y d) (hz : Names X z f) : TestOk X (.Tuple [.Name x p1, .Name y p2, .Name z p3] k pt) (fun cls => PySem.W.exmAny X.K cls [c, d, f]) := by
  intro a pn σ H s cls b E Q I hb q
  refine wpAny_Tuple_spliced (Calls.spliced_cons (test_ev hx I (Calls.spliced_cons (test_ev hy I (Calls.spliced_cons (test_ev hz I (Calls.spliced_nil ⟨by rw [sizeLine_eq]; simp, ?_⟩)))))))
  have kp : ∀ b o, s.heap.get? b = some o → (s.heap.push { cls := .type "tuple", data := .seq [c, d, f].toArray }).get? b = some o := fun b o z => Heap.get?_push_of_some _ z
  exact q _ s.toks _ kp fun e LT => PySem.W.exm_tup3 (I.kIn.keeps kp) LT (Heap.get?_push_size _ rfl) hb
end
end PV
set_option Elab.async false
set_option linter.all false
set_option autoImplicit false
set_option maxRecDepth 100000
set_option maxHeartbeats 2000000
/-! PV: the rule of try. -/
namespace PV
open PySem PySem.Spec PyProof.Rows L2
/-- a clause, as it is read: its test, the name's place, its suite -/
structure Hr where
  test : Value → Option Bool
  slot : Option Nat
  ts : Addr → Value → Option Addr → TS
/-- the clause's name goes at its end -/
def goneE (i : Nat) (D : Ends) : Ends := { nx := fun σ H => D.nx (σ.set i none) H, rt := D.rt, bk := fun σ H => D.bk (σ.set i none) H, ct := fun σ H => D.ct (σ.set i none) H }
def enterH (h : Hr) (a : Addr) (cls : Value) (d : Option Addr) (D : Ends) (σ : L2.St) (H : Hp) : Prop := match h.slot with
  | some i => h.ts a cls d (goneE i D) (σ.set i (some (.ref a))) (upd H a (ExcH a cls d))
  | none => h.ts a cls d D σ (upd H a (ExcH a cls d))
/-- what the clauses wish of an error -/
def wX (Wout : WX) (D : Ends) : List Hr → WX
  | [] => Wout
  | h :: r => fun cls d σ H => ∃ b, h.test cls = some b ∧ (b = true → ∀ a, H a = none → enterH h a cls d D σ H) ∧ (b = false → wX Wout D r cls d σ H)
inductive HX (X : Cx) : List ExceptHandler → List Hr → Prop
  | nil : HX X [] []
  | named {t : Expr} {n : Str} {i : Nat} {b₀ : Stmt} {suite : List Stmt} {pos : Pos} {hds : List ExceptHandler} {l : List Hr} {test : Value → Option Bool} {ts : Addr → Value → Option Addr → TS} (ht : TestOk X t test) (hi : X.N[i]? = some n) (hl : X.env.kindOf n = some .local)
      (hs : ∀ a pn cls d, PSs (X.suite a pn) (b₀ :: suite) (ts a cls d)) (r : HX X hds l) : HX X (.ExceptHandler (some t) (some n) (b₀ :: suite) pos :: hds) (⟨test, some i, ts⟩ :: l)
  | plain {t : Expr} {b₀ : Stmt} {suite : List Stmt} {pos : Pos} {hds : List ExceptHandler} {l : List Hr} {test : Value → Option Bool} {ts : Addr → Value → Option Addr → TS} (ht : TestOk X t test)
      (hs : ∀ a pn cls d, PSs (X.suite a pn) (b₀ :: suite) (ts a cls d)) (r : HX X hds l) : HX X (.ExceptHandler (some t) none (b₀ :: suite) pos :: hds) (⟨test, none, ts⟩ :: l)
section
variable {X : Cx} {body : List Stmt} {h₀ : ExceptHandler} {hds : List ExceptHandler} {l : List Hr} {pos : Pos} {tb : WX → TS} {Wout : WX}
theorem ps_tryX (hst : X.stack = X.env :: X.outer) (hf : X.env.frame = some X.env.locals) (hex : X.ex = []) (hN : X.N.Nodup) (tk : Takes X Wout)
    (hb : ∀ (W : WX) (pn : List (Addr × Obj)) (xe : Value → Shared → Prop), Takes (X.tr pn xe) W → PassesOwn (model X.prog X.w) X.A X.env xe → PSs (X.tr pn xe) body (tb W)) (hh : HX X (h₀ :: hds) l) :
    PS X (.Try body (h₀ :: hds) [] [] pos) (fun D σ H => tb (wX Wout D l) D σ H) := by
  refine ⟨fun pins s σ H D I h => wpAny_Try_except ?_⟩
  have ok := I.ok
  have hfr : X.A.frames = some (X.env :: X.outer) := by rw [ok.frames, hst]
  have catches : Takes (X.tr (X.pn ++ pins) (fun e s1 => wpAny (model X.prog X.w) X.A (noteFrame e X.env) (fun _ s2 => wpAny (model X.prog X.w) X.A (setFlight e none) (fun _ s3 => wpAny (model X.prog X.w) X.A (handleBy e X.env (h₀ :: hds)) (SP X pins D) X.xe s3) X.xe s2) X.xe s1)) (wX Wout D l) := by
    intro u s' ⟨a, B, sI, pins', σ', H', cls, d, eu, J', nb, up, sky, na, os, ag, w⟩
    subst eu
    have J : Inv X pins σ' H' sI := J'.ofTry ok
    have sky2 : Sky B (X.env :: X.outer) a (Zc cls d) X.env.locals s'.heap := by rw [← hst]; exact sky
    show wpAny (model X.prog X.w) X.A (noteFrame (.ref a) X.env) _ _ _
    refine Sky.land Zc.steady hfr hf sky2 fun h3 fl3 up3 => ?_
    have up13 := up.trans up3
    -- where the error lies
    obtain ⟨oe3, vs3, he3, hz3, hd3⟩ := fl3.there
    have nfr : a ∉ frs (X.env :: X.outer) := fun hm => by
      obtain ⟨_, o', e1, e2⟩ := fl3.2.2.1.mem hm
      rw [he3] at e1
      cases e1
      exact e2 _ hd3
    have nL : a ≠ X.env.locals := fun z => nfr (List.mem_filterMap.mpr ⟨X.env, .head _, by rw [hf, z]⟩)
    have nfs : a ∉ frs X.stack := by rw [hst]; exact nfr
    have nI : sI.heap.get? a = none := by
      cases q : sI.heap.get? a with
      | none => rfl
      | some o =>
        have z := nb a o q nfs
        rw [fl3.2.1] at z
        cases z
    have n0 : X.s_0.heap.get? a = none := by
      cases q : X.s_0.heap.get? a with
      | none => rfl
      | some o =>
        obtain ⟨o', z⟩ := J.base.there a o q (by rw [hex]; simp)
        rw [nI] at z
        cases z
    have npin : ∀ p ∈ X.pn ++ pins, p.1 ≠ a := fun p hp z => by
      have q := (J.pin p hp).1
      rw [z, nI] at q
      cases q
    -- every state behind it is a state of ours
    have land : ∀ (h' : Heap) (tk' : Nat), B.StaysIn h' → sI.heap.UpToSlots h' → Inv X pins σ' H' { s' with heap := h', toks := tk' } := fun h' tk' k1 k2 => J.landed (s' := { s' with heap := h', toks := tk' }) nb k1 k2 os ag
    have go : ∀ {hds' : List ExceptHandler} {l' : List Hr}, HX X hds' l' → wX Wout D l' cls d σ' H' → ∀ (h5 : Heap) (tk5 : Nat), HandSPX.FlyingZ B (X.env :: X.outer) a (Zc cls d) h5 → sI.heap.UpToSlots h5 →
        wpAny (model X.prog X.w) X.A (handleBy (.ref a) X.env hds') (SP X pins D) X.xe { s' with heap := h5, toks := tk5 } := by
      intro hds' l' hk
      induction hk with
      | nil =>
        intro w h5 tk5 fl5 up5
        refine wpAny_handleBy_nil ?_
        obtain ⟨_, _, _, oe, vs, T, oT, ts', he, hz, hd, h1, _⟩ := id fl5
        have fin : wpAny (model X.prog X.w) X.A (setFlight (.ref a) X.env.frame) (fun _ s4 => wpAny (model X.prog X.w) X.A (throw (.ref a) : Sem Flow) (SP X pins D) X.xe s4) X.xe { s' with heap := h5, toks := tk5 } := by
          rw [hf]
          refine HandSPX.setFlight_upZ fl5 fun h6 held6 up6 => wpAny_throw (tk _ _ ?_)
          exact ⟨a, B, sI, pins, σ', H', cls, d, rfl, J, nb, up5.trans up6, .inr (.inr (by rw [hst]; exact held6)), na, os, ag, w⟩
        unfold PySem.passOn
        refine wpAny_bind (wpAny_field he hd h1 ?_)
        rw [if_neg (show ¬ ((Value.ref T == Value.none) = true) from by simp)]
        first
          | exact wpAny_bind (wpAny_pure (wpAny_bind fin))
          | exact wpAny_bind fin
      | @named t n i b₀ suite pos hds2 l2 test ts ht hi hl hsu r ih =>
        intro w h5 tk5 fl5 up5
        obtain ⟨b, hb1, yes, no⟩ := w
        have J5 := land h5 tk5 fl5.1 up5
        obtain ⟨oe5, vs5, he5, hz5, hd5⟩ := fl5.there
        refine PySem.W.exc_clause_as (ht a (X.pn ++ pins) σ' _ _ cls b _ _ (adopt J5 he5 hd5 hz5 na nL n0 npin) hb1 fun h6 tk6 c k6 LM => ?_)
        have fl6 := flying_kept k6 fl5
        have up6 : sI.heap.UpToSlots h6 := up5.trans (Heap.UpToSlots.of_keeps k6)
        obtain ⟨oe6, vs6, he6, hz6, hd6⟩ := fl6.there
        have LT : PySem.W.Looks (model X.prog X.w) h6 (typeOf (.ref a)) cls := fun A Q E s k q => wpAny_typeOf_ref (k _ _ he6) (by rw [hz6.1]; exact q)
        refine ⟨b, LM a LT, ?_⟩
        cases b with
        | false => exact ih (no rfl) h6 tk6 fl6 up6
        | true =>
          rw [if_pos rfl]
          refine HandSPX.lands_againZ fl6 fun h7 fl7 up7 => ?_
          have up17 := up6.trans up7
          obtain ⟨oe7, vs7, he7, hz7, hd7⟩ := fl7.there
          have S7 := adopt (land h7 tk6 fl7.1 up17) he7 hd7 hz7 na nL n0 npin
          refine store_ok (X := X.suite a (X.pn ++ pins)) (v := .ref a) S7 hN hi (.inl hl) rfl (fun s8 S8 => ?_) (.inr hl)
          refine wpAny_mono ((hsu a (X.pn ++ pins) cls d).run [] s8 _ _ _ S8 (yes rfl a na)) (fun f s9 sp => ?_) (fun _ _ z => z.elim)
          have bye : ∀ {σ9 : L2.St} {H9 : Hp} {QQ : Shared → Prop}, Inv (X.suite a (X.pn ++ pins)) [] σ9 H9 s9 → (∀ s10, Inv X pins (σ9.set i none) H9 s10 → QQ s10) →
              wpAny (model X.prog X.w) X.A (bindName X.env n .none >>= fun _ => unbindBehindTheSuite X.env n pos) (fun _ s10 => QQ s10) X.xe s9 := fun {σ9 H9 QQ} S9 hq => gone_ok (unsuite0 S9 ok) hN hi hl hq
          cases f with
          | next => obtain ⟨σ9, H9, S9, q9⟩ := sp; exact bye S9 fun s10 J10 => ⟨_, _, J10, q9⟩
          | brk => obtain ⟨σ9, H9, S9, q9⟩ := sp; exact bye S9 fun s10 J10 => ⟨_, _, J10, q9⟩
          | cont => obtain ⟨σ9, H9, S9, q9⟩ := sp; exact bye S9 fun s10 J10 => ⟨_, _, J10, q9⟩
          | ret u => obtain ⟨v9, σ9, H9, S9, r9, q9⟩ := sp; exact bye S9 fun s10 J10 => ⟨_, _, _, J10, r9, q9⟩
      | @plain t b₀ suite pos hds2 l2 test ts ht hsu r ih =>
        intro w h5 tk5 fl5 up5
        obtain ⟨b, hb1, yes, no⟩ := w
        have J5 := land h5 tk5 fl5.1 up5
        obtain ⟨oe5, vs5, he5, hz5, hd5⟩ := fl5.there
        refine PySem.W.exc_clause (ht a (X.pn ++ pins) σ' _ _ cls b _ _ (adopt J5 he5 hd5 hz5 na nL n0 npin) hb1 fun h6 tk6 c k6 LM => ?_)
        have fl6 := flying_kept k6 fl5
        have up6 : sI.heap.UpToSlots h6 := up5.trans (Heap.UpToSlots.of_keeps k6)
        obtain ⟨oe6, vs6, he6, hz6, hd6⟩ := fl6.there
        have LT : PySem.W.Looks (model X.prog X.w) h6 (typeOf (.ref a)) cls := fun A Q E s k q => wpAny_typeOf_ref (k _ _ he6) (by rw [hz6.1]; exact q)
        refine ⟨b, LM a LT, ?_⟩
        cases b with
        | false => exact ih (no rfl) h6 tk6 fl6 up6
        | true =>
          rw [if_pos rfl]
          refine HandSPX.lands_againZ fl6 fun h7 fl7 up7 => ?_
          have up17 := up6.trans up7
          obtain ⟨oe7, vs7, he7, hz7, hd7⟩ := fl7.there
          have S7 := adopt (land h7 tk6 fl7.1 up17) he7 hd7 hz7 na nL n0 npin
          refine wpAny_mono ((hsu a (X.pn ++ pins) cls d).run [] _ _ _ _ S7 (yes rfl a na)) (fun f s9 sp => ?_) (fun _ _ z => z.elim)
          cases f with
          | next => obtain ⟨σ9, H9, S9, q9⟩ := sp; exact ⟨_, _, unsuite0 S9 ok, q9⟩
          | brk => obtain ⟨σ9, H9, S9, q9⟩ := sp; exact ⟨_, _, unsuite0 S9 ok, q9⟩
          | cont => obtain ⟨σ9, H9, S9, q9⟩ := sp; exact ⟨_, _, unsuite0 S9 ok, q9⟩
          | ret u => obtain ⟨v9, σ9, H9, S9, r9, q9⟩ := sp; exact ⟨_, _, _, unsuite0 S9 ok, r9, q9⟩
    exact go hh w h3 s'.toks fl3 up13
  refine wpAny_mono ((hb (wX Wout D l) (X.pn ++ pins) _ catches PassesOwn.looking).run [] s σ H D (I.toTry _) h) (fun f s1 sp => ?_) (fun e s1 he => he)
  cases f with
  | next => obtain ⟨σ1, H1, J1, q1⟩ := sp; exact wpAny_execs_nil ⟨σ1, H1, J1.ofTry ok, q1⟩
  | brk => obtain ⟨σ1, H1, J1, q1⟩ := sp; exact ⟨σ1, H1, J1.ofTry ok, q1⟩
  | cont => obtain ⟨σ1, H1, J1, q1⟩ := sp; exact ⟨σ1, H1, J1.ofTry ok, q1⟩
  | ret u => obtain ⟨v1, σ1, H1, J1, r1, q1⟩ := sp; exact ⟨v1, σ1, H1, J1.ofTry ok, r1, q1⟩
end
end PV
set_option Elab.async false
set_option linter.all false
set_option autoImplicit false
set_option maxRecDepth 100000
set_option maxHeartbeats 2000000
/-! PV: errors that are kept are asked; an error is raised. -/
namespace PV
open PySem PySem.Spec PyProof.Rows L2
/-- what a class of errors must be, so that its errors can be asked -/
structure EcC (K : Frg) (C : Addr) : Prop where
  cl : (PySem.W.clsIn K C).isSome = true
  ga : PySem.W.findIn K (.ref C) "__getattribute__" = some (some (.builtin "BaseException.__getattribute__"))
  gg : PySem.W.findIn K (.ref C) "__getattr__" = some none
  sub : PySem.W.subIn K (.ref C) (.type "BaseException") = some true
  ca : PySem.W.findIn K (.ref C) "__class__" = some (some (.builtin "object.__class__"))
  gs : PySem.W.specialIn K (.builtin "object.__class__") "__get__" = some (some (.builtin "getset_descriptor.__get__"))
  tk : PySem.W.takesIn K (.builtin "object.__class__") = some true
  mo : PySem.W.mroIn K C (.type "object") = some true
  hd : PySem.W.hasDictIn K C = true
section
variable {X : Cx} {pins : List (Addr × Obj)} {σ : L2.St} {H : Hp} {s : Shared} {a C dx : Addr} {fs : List (Str × V)}
theorem exc_inst (I : Inv X pins σ H s) (h : H a = some (ExcH a (.ref C) (some dx))) (hx : H dx = some (.xd fs)) : ∃ (oe : Obj) (od : Obj), PySem.W.InstAt s.heap a oe C (some od) ∧ ∃ mA : Str → Option Value, (∀ f, RelO (fs.lookup f) (mA f)) ∧ ∀ n, PySem.W.lookIn n od = some (mA n) := by
  obtain ⟨⟨oe, vs, h1, h2, h3⟩, _, _⟩ := (show ObjOk X.prog X.w H s.heap a (ExcH a (.ref C) (some dx)) from I.hok a _ h)
  obtain ⟨mA, hns, hr⟩ := (show ObjOk X.prog X.w H s.heap dx (.xd fs) from I.hok dx _ hx)
  obtain ⟨od, ho, hl⟩ := lookIn_ns hns
  exact ⟨oe, od, ⟨h1, h2.1, by unfold PySem.W.notCls; rw [h3] <;> rfl, by rw [h2.2]; exact ho⟩, mA, hr, hl⟩
def rIsX (K : Frg) : List V → Hp → VK → Prop := fun xs H Q => ∃ (a C dx : Addr) (fs : List (Str × V)) (c : V) (T : Value) (b : Bool), xs = [.ref a, c] ∧ H a = some (ExcH a (.ref C) (some dx)) ∧ H dx = some (.xd fs) ∧ ClsV c T ∧ EcC K C ∧ PySem.W.kitOne K (.ref C) T = some b ∧ Q (.bl b) H
def rIsXT (K : Frg) : List V → Hp → VK → Prop := fun xs H Q => ∃ (a C dx : Addr) (fs : List (Str × V)) (tp : Addr) (cs : List V) (us : List Value) (b : Bool), xs = [.ref a, .ref tp] ∧ H a = some (ExcH a (.ref C) (some dx)) ∧ H dx = some (.xd fs) ∧ H tp = some (.tup cs) ∧ Paired ClsV cs us ∧ EcC K C ∧ PySem.W.kitAny K (.ref C) us = some b ∧ Q (.bl b) H
theorem call_isX : CallR X (.builtin "isinstance") (rIsX X.K) := by
  intro pins s σ H xs us Q I r h
  obtain ⟨a, C, dx, fs, c, T, b, rfl, h1, h2, k, ec, e, q⟩ := h
  obtain ⟨u1, u2, rfl, r1, r2⟩ := vals2 r
  have e2 := k.eq r2
  subst e2
  cases (show u1 = Value.ref a from r1)
  obtain ⟨oe, od, J, _⟩ := exc_inst I h1 h2
  exact PySem.W.kia_one (PySem.W.kitx_exc ec.cl ec.ga ec.gg ec.sub ec.ca ec.gs ec.tk ec.mo) I.kIn J e (fun z => nomatch z) fun tk => ⟨.bl b, H, I.tok tk, rfl, q⟩
theorem call_isXT : CallR X (.builtin "isinstance") (rIsXT X.K) := by
  intro pins s σ H xs us Q I r h
  obtain ⟨a, C, dx, fs, tp, cs, ws, b, rfl, h1, h2, hT, k, ec, e, q⟩ := h
  obtain ⟨u1, u2, rfl, r1, r2⟩ := vals2 r
  cases (show u1 = Value.ref a from r1)
  cases (show u2 = Value.ref tp from r2)
  obtain ⟨oe, od, J, _⟩ := exc_inst I h1 h2
  obtain ⟨_, its, rv, o, k1, k2, n, k3⟩ := (show ObjOk X.prog X.w H s.heap tp (.tup cs) from I.hok tp _ hT)
  have e3 := ClsV.all k rv
  subst e3
  obtain ⟨oc, od', dt, sl⟩ := o
  simp only at k2 k3
  subst k2 k3
  exact PySem.W.kia_tup (PySem.W.kitx_exc ec.cl ec.ga ec.gg ec.sub ec.ca ec.gs ec.tk ec.mo) I.kIn J k1 e (fun z => nomatch z) fun tk => ⟨.bl b, H, I.tok tk, rfl, q⟩
/-- e.f -/
def tFx (K : Frg) (f : Str) (te : TE) : TE := fun σ H Q => te σ H fun x H1 => ∃ (a C dx : Addr) (fs : List (Str × V)) (v : V), x = .ref a ∧ H1 a = some (ExcH a (.ref C) (some dx)) ∧ H1 dx = some (.xd fs) ∧ EcC K C ∧ PySem.W.findIn K (.ref C) f = some none ∧ fs.lookup f = some v ∧ Q v H1
theorem pe_fx {e : Expr} {f : Str} {te : TE} {pos : Pos} (he : PE X e te) (hb : attributeBase e f X.env (eval e X.env) = eval e X.env) : PE X (.Attribute e f pos) (tFx X.K f te) := by
  refine ⟨fun pins s σ H Q I h => ?_⟩
  refine attr_of hb (thn (he.run pins s σ H _ I h) fun u s1 hh => ?_)
  obtain ⟨x, H1, I1, rx, a, C, dx, fs, v, ex, h1, h2, ec, hno, l, q⟩ := hh
  subst ex
  obtain rfl : u = Value.ref a := rx
  obtain ⟨oe, od, J, mA, hr, hl⟩ := exc_inst I1 h1 h2
  obtain ⟨u, hu, ru⟩ := RelO.some_of (v := v) (o := mA f) (by rw [← l]; exact hr f)
  exact HandSPX.exc_get I1.kIn J ec.ga ec.gg ec.sub (PySem.W.findObj_own ec.hd hno rfl (by rw [hl, hu])) (handed_of ru) ⟨v, H1, I1.tok _, ru, q⟩
end
end PV
set_option Elab.async false
set_option linter.all false
set_option autoImplicit false
set_option maxRecDepth 100000
set_option maxHeartbeats 2000000
/-! PV: errors, by what is read. -/
namespace PV
open PySem PySem.Spec PyProof.Rows L2
/-- what a name of a class stands for -/
structure TnOk (mg : Str → Option Value) (t : Str) (c : V) (T : Value) : Prop where
  cv : ClsV c T
  ne : t ≠ "__name__"
  at_ : mg t = some T ∨ (mg t = none ∧ bootBuiltins t = some T)
/-- an error of the class x against the class t -/
def TbOk (K : Frg) (mg : Str → Option Value) (x t : Str) (b : Bool) : Prop := ∃ (C : Addr) (c : V) (T : Value), mg x = some (.ref C) ∧ TnOk mg t c T ∧ EcC K C ∧ PySem.W.exmOne K (.ref C) T = some b ∧ PySem.W.kitOne K (.ref C) T = some b
theorem TnOk.inj {mg : Str → Option Value} {t : Str} {c c' : V} {T T' : Value} (h : TnOk mg t c T) (h' : TnOk mg t c' T') : c = c' ∧ T = T' := by
  have e : T = T' := by
    rcases h.at_ with a | ⟨a, a2⟩
    · rcases h'.at_ with b | ⟨b, _⟩
      · rw [a] at b; cases b; rfl
      · rw [a] at b; cases b
    · rcases h'.at_ with b | ⟨_, b⟩
      · rw [a] at b; cases b
      · rw [a2] at b; cases b; rfl
  subst e
  refine ⟨?_, rfl⟩
  have k1 := h.cv
  have k2 := h'.cv
  cases k1 <;> cases k2 <;> rfl
def isxM (Φ : Env') (i : Nat) (cs : List Str) : M Rv := fun ρ => match ρ[i]? with
    | some (.st (.exn e)) => match anySub Φ e.cls cs with
      | some b => .ok (.val (.bool b)) ρ
      | none => .stuck
    | _ => .stuck
def fldM (Φ : Env') (i : Nat) (f : Str) : M Rv := fun ρ => match ρ[i]? with
    | some (.st (.exn e)) => match fldV Φ e f with
      | some d => .ok (.val d) ρ
      | none => .stuck
    | _ => .stuck
def isnM (i : Nat) (neg : Bool) : M Bool := fun ρ => match ρ[i]? with
    | some (.st (.exn _)) => .ok neg ρ
    | some (.val d) => .ok (match d with | .none => !neg | _ => neg) ρ
    | some (.own _ _) => .ok neg ρ
    | _ => .stuck
section
variable {X : Cx} {g : Gh} {E : WX} {F : List Nat} {Φ : Env'} {i : Nat} {p p1 p2 pt pos : Pos} {z t : Str} {W : Wd} {σ : L2.St} {ρ : List Slot}
theorem exn_at (so : SO g W σ ρ) {e : Exn} (h : ρ[i]? = some (.st (.exn e))) : ∃ (a C dx : Addr) (fs : List (Str × V)), σ[i]? = some (some (.ref a)) ∧ g.mg e.cls = some (.ref C) ∧ W.H a = some (ExcH a (.ref C) (some dx)) ∧ W.H dx = some (.xd fs) ∧ Paired (fun (p : Str × V) (q : Str × D) => p.1 = q.1 ∧ Rp g.K W.G p.2 q.2) fs e.fs := by
  obtain ⟨v, h1, a, C, dx, fs, rfl, h3, h4, h5, h6⟩ := so.slot h
  exact ⟨a, C, dx, fs, h1, h3, so.gh _ _ h4, so.gh _ _ h5, h6⟩
theorem lookup_paired {K : Frg} {G : Hp} {f : Str} {d : D} : ∀ {fs : List (Str × V)} {es : List (Str × D)}, Paired (fun (p : Str × V) (q : Str × D) => p.1 = q.1 ∧ Rp K G p.2 q.2) fs es → es.lookup f = some d → ∃ v, fs.lookup f = some v ∧ Rp K G v d
  | _, _, .nil, h => by cases h
  | (x, v) :: fs, (y, d') :: es, .cons ⟨h1, h2⟩ r, h => by
    have h1 : x = y := h1
    subst h1
    rw [List.lookup_cons] at h ⊢
    split at h
    · cases h; exact ⟨v, rfl, h2⟩
    · exact lookup_paired r h
theorem s_fld {f : Str} {y : Str} (hmg : X.mg = g.mg) (hx : ∀ x fs, Φ.ex x = some fs → ∃ C, X.mg x = some (.ref C) ∧ EcC X.K C ∧ ∀ f ∈ fs, PySem.W.findIn X.K (.ref C) f = some none) (ho : PE X (.Name y p) (tVar i)) : PE X (.Attribute (.Name y p) f pos) (rdE g E (fldM Φ i f)) := by
  refine (pe_fx ho rfl).weaken fun σ H Q ⟨W, ρ, eH, so, hp⟩ => ?_
  subst eH
  unfold fldM at hp
  split at hp
  · rename_i e he
    split at hp
    · rename_i d hd
      obtain ⟨a, C, dx, fs, h1, h2, h3, h4, h5⟩ := exn_at so he
      unfold fldV at hd
      split at hd
      · rename_i ns hn
        split at hd
        · rename_i hc
          obtain ⟨C', k1, k2, k3⟩ := hx _ _ hn
          rw [hmg, h2] at k1
          cases k1
          obtain ⟨v, l1, l2⟩ := lookup_paired h5 hd
          exact ⟨_, h1, a, C, dx, fs, v, rfl, h3, h4, k2, k3 f (by simpa using hc), l1, hp W (Ext.refl W) so v l2⟩
        · cases hd
      · cases hd
    · exact hp.elim
  · exact hp.elim
theorem pe_tn {c : V} {T : Value} (hg : Gl X t) (hd : (t == ("__debug__" : Str)) = false) (h : TnOk X.mg t c T) : PE X (.Name t p) (tC c) := by
  have rv : RelV c T := by cases h.cv <;> exact rfl
  rcases h.at_ with a | ⟨a, b⟩
  · exact pe_glob hg a rv hd
  · exact pe_bltn hg a b rv h.ne hd
/-- the classes that are asked after -/
inductive TnsOk (X : Cx) (Φ : Env') : List Str → List Expr → List V → List Value → Prop
  | nil : TnsOk X Φ [] [] [] []
  | cons {t : Str} {ts : List Str} {p : Pos} {es : List Expr} {c : V} {cs : List V} {T : Value} {Ts : List Value} (hg : Gl X t) (hd : (t == ("__debug__" : Str)) = false) (h : TnOk X.mg t c T) (r : TnsOk X Φ ts es cs Ts) : TnsOk X Φ (t :: ts) (.Name t p :: es) (c :: cs) (T :: Ts)
theorem TnsOk.pa {ts : List Str} {es : List Expr} {cs : List V} {Ts : List Value} (h : TnsOk X Φ ts es cs Ts) : PA X es (fun _ H Q => Q cs H) ∧ Paired ClsV cs Ts ∧ cs.length = ts.length := by
  induction h with
  | nil => exact ⟨pa_nil.weaken fun _ _ _ h => h, .nil, rfl⟩
  | cons hg hd h r ih => exact ⟨(pa_cons (pe_tn hg hd h) ih.1).weaken fun _ _ _ h => h, .cons h.cv ih.2.1, by simp [ih.2.2]⟩
def TbAll (X : Cx) (Φ : Env') : Prop := ∀ x t b, Φ.sub x t = some b → TbOk X.K X.mg x t b
theorem any_sub {x : Str} {C : Addr} (hT : TbAll X Φ) (hm : X.mg x = some (.ref C)) {ts : List Str} {es : List Expr} {cs : List V} {Ts : List Value} (h : TnsOk X Φ ts es cs Ts) : ∀ {b : Bool}, anySub Φ x ts = some b → PySem.W.kitAny X.K (.ref C) Ts = some b ∧ PySem.W.exmAny X.K (.ref C) Ts = some b := by
  induction h with
  | nil => intro b h; cases h; exact ⟨kitAny_nil, rfl⟩
  | @cons t ts p es c cs T Ts hg hd h r ih =>
    intro b hb
    unfold anySub at hb
    cases q1 : Φ.sub x t with
    | none => rw [q1] at hb; cases hb
    | some b1 =>
      cases q2 : anySub Φ x ts with
      | none => rw [q1, q2] at hb; cases hb
      | some b2 =>
        rw [q1, q2] at hb
        cases hb
        obtain ⟨C', c', T', k1, k2, k3, k4, k5⟩ := hT _ _ _ q1
        rw [hm] at k1
        cases k1
        obtain ⟨rfl, rfl⟩ := h.inj k2
        obtain ⟨i1, i2⟩ := ih q2
        refine ⟨kitAny_cons k5 (fun e => by rw [e]; exact i1) (fun e => by rw [e]; rfl), ?_⟩
        unfold PySem.W.exmAny
        rw [k4, i2]
theorem ec_of {x : Str} {C : Addr} (hT : TbAll X Φ) (hm : X.mg x = some (.ref C)) {ts : List Str} {b : Bool} (hb : anySub Φ x ts = some b) (ne : ts ≠ []) : EcC X.K C := by
  cases ts with
  | nil => exact absurd rfl ne
  | cons t ts =>
    unfold anySub at hb
    cases q1 : Φ.sub x t with
    | none => rw [q1] at hb; cases hb
    | some b1 =>
      obtain ⟨C', c', T', k1, k2, k3, k4, k5⟩ := hT _ _ _ q1
      rw [hm] at k1
      cases k1
      exact k3
theorem s_isx1 {c : V} {T : Value} (hK : X.K = g.K) (hmg : X.mg = g.mg) (hT : TbAll X Φ) (hi : Gl X "isinstance") (hmi : X.mg "isinstance" = none) (hg : Gl X t) (hd : (t == ("__debug__" : Str)) = false) (tn : TnOk X.mg t c T) (hz : PE X (.Name z p1) (tVar i)) :
    PE X (.Call (.Name "isinstance" p) [.Name z p1, .Name t p2] [] pos) (rdE g E (isxM Φ i [t])) := by
  refine (pe_callB call_isX hi hmi (by decide +kernel) (pa_cons hz (pa_cons (pe_tn hg hd tn) pa_nil)) (by decide) (by decide)).weaken fun σ H Q ⟨W, ρ, eH, so, hp⟩ => ?_
  subst eH
  unfold isxM at hp
  split at hp
  · rename_i e he
    split at hp
    · rename_i b hb
      obtain ⟨a, C, dx, fs, h1, h2, h3, h4, h5⟩ := exn_at so he
      rw [← hmg] at h2
      have k := (any_sub hT h2 (.cons (p := p2) hg hd tn .nil) hb).1
      have k1 : PySem.W.kitOne X.K (.ref C) T = some b := by
        unfold anySub at hb
        cases q1 : Φ.sub e.cls t with
        | none => rw [q1] at hb; cases hb
        | some b1 =>
          rw [q1] at hb
          unfold anySub at hb
          cases hb
          obtain ⟨C', c', T', k1, k2, k3, k4, k5⟩ := hT _ _ _ q1
          rw [h2] at k1
          cases k1
          obtain ⟨rfl, rfl⟩ := tn.inj k2
          simpa using k5
      exact ⟨_, h1, a, C, dx, fs, _, _, b, rfl, h3, h4, tn.cv, ec_of hT h2 hb (by simp), k1, hp W (Ext.refl W) so _ (.bl _)⟩
    · exact hp.elim
  · exact hp.elim
theorem s_isxT {k : Nat} {ts : List Str} {es : List Expr} {cs : List V} {Ts : List Value} (hK : X.K = g.K) (hmg : X.mg = g.mg) (hT : TbAll X Φ) (hi : Gl X "isinstance") (hmi : X.mg "isinstance" = none) (tn : TnsOk X Φ ts es cs Ts) (hl : ts.length ≤ 100) (ne : ts ≠ []) (hz : PE X (.Name z p1) (tVar i)) :
    PE X (.Call (.Name "isinstance" p) [.Name z p1, .Tuple es k pt] [] pos) (rdE g E (isxM Φ i ts)) := by
  obtain ⟨pa, pd, ln⟩ := tn.pa
  refine (pe_callB call_isXT hi hmi (by decide +kernel) (pa_cons hz (pa_cons (pe_tup pa) pa_nil)) (by decide) (by decide)).weaken fun σ H Q ⟨W, ρ, eH, so, hp⟩ => ?_
  subst eH
  unfold isxM at hp
  split at hp
  · rename_i e he
    split at hp
    · rename_i b hb
      obtain ⟨a, C, dx, fs, h1, h2, h3, h4, h5⟩ := exn_at so he
      rw [← hmg] at h2
      refine ⟨_, h1, by rw [ln, sizeLine_eq]; omega, fun q hq => ?_⟩
      obtain ⟨s2, e2⟩ := so_upd (o := .tup cs) (fz := true) so hq
      have na : a ≠ q := fun z => by rw [z, hq] at h3; cases h3
      have nx : dx ≠ q := fun z => by rw [z, hq] at h4; cases h4
      exact ⟨a, C, dx, fs, q, cs, Ts, b, rfl, by rw [upd_ne na]; exact h3, by rw [upd_ne nx]; exact h4, upd_same, pd, ec_of hT h2 hb ne, (any_sub hT h2 tn hb).1, hp _ e2 s2 _ (.bl _)⟩
    · exact hp.elim
  · exact hp.elim
theorem non_iff {K : Frg} {G : Hp} {v : V} {d : D} (h : Rp K G v d) : decide (v = .non) = (match d with | .none => true | _ => false) := by
  cases h <;> rfl
theorem s_isn {y : Str} {kk : Nat} {neg : Bool} {op : CmpOp} (hop : op = if neg then .IsNot else .Is) (ho : PE X (.Name y p) (tVar i)) (hc : PE X (.Constant .none kk p1) (tC .non)) : PT X (.Compare (.Name y p) [op] [.Constant .none kk p1] pos) (rdT g E (isnM i neg)) := by
  subst hop
  have look : ∀ {W : Wd} {σ : L2.St} {ρ : List Slot} {Q : Bool → Hp → Prop}, SO g W σ ρ → Po g E W σ (fun r W' => Q r W'.H) (isnM i neg ρ) → ∃ v, σ[i]? = some (some v) ∧ Q (if neg then !decide (v = .non) else decide (v = .non)) W.H := by
    intro W σ ρ Q so hp
    unfold isnM at hp
    split at hp
    · rename_i e he
      obtain ⟨a, C, dx, fs, h1, _⟩ := exn_at so he
      refine ⟨_, h1, ?_⟩
      have q := hp W (Ext.refl W) so
      cases neg <;> exact q
    · rename_i d he
      obtain ⟨v, h1, h2⟩ := so.slot he
      refine ⟨v, h1, ?_⟩
      have q := hp W (Ext.refl W) so
      rw [non_iff h2]
      cases neg <;> cases d <;> exact q
    · rename_i pin m he
      obtain ⟨pa, h1, _⟩ := so.slot he
      refine ⟨_, h1, ?_⟩
      have q := hp W (Ext.refl W) so
      cases neg <;> exact q
    · exact hp.elim
  cases neg with
  | false =>
    refine (pt_cmpR op_isN ho hc rfl).weaken fun σ H Q ⟨W, ρ, eH, so, hp⟩ => ?_
    subst eH
    obtain ⟨v, h1, h2⟩ := look so hp
    exact ⟨v, h1, rfl, _, rfl, h2⟩
  | true =>
    refine (pt_cmpR op_notN ho hc rfl).weaken fun σ H Q ⟨W, ρ, eH, so, hp⟩ => ?_
    subst eH
    obtain ⟨v, h1, h2⟩ := look so hp
    exact ⟨v, h1, rfl, _, rfl, h2⟩
end
end PV
set_option Elab.async false
set_option linter.all false
set_option autoImplicit false
set_option maxRecDepth 100000
set_option maxHeartbeats 2000000
/-! PV: an error is raised; clauses; try. -/
namespace PV
open PySem PySem.Spec PyProof.Rows L2
/-- what an error's __init__ does -/
def spI (C : Addr) (fs : List Str) : Sp := fun xs H Q _ => ∃ (a : Addr) (vs : List V), xs = .ref a :: vs ∧ vs.length = fs.length ∧ H a = some (exo a C none) ∧
  ∀ d, H d = none → d ≠ a → Q .non (upd (upd H d (exd d (fs.zip vs).reverse)) a (exo a C (some d)))
/-- a class of errors that can be raised -/
structure MkE (P : Program) (w : World) (K : Frg) (mg : Str → Option Value) (base : Heap) (k : Nat) (x : Str) (fs : List Str) : Prop where
  ex : ∃ (C fI : Addr) (fd : FuncData) (ps : List Str), mg x = some (.ref C) ∧ EcC K C ∧ (∀ f ∈ fs, PySem.W.findIn K (.ref C) f = some none) ∧ OexC K C ∧ PySem.W.findIn K (.ref C) "__init__" = some (some (.ref fI)) ∧ PySem.W.typeIn K (.ref fI) = some (.type "function") ∧
    FnOk P w K mg base (L2.CX P w) k fI fd ps (spI C fs) ∧ Binds K fd ps []
  few : fs.length ≤ 900
theorem MkE.mono {P : Program} {w : World} {K : Frg} {mg : Str → Option Value} {base : Heap} {j k : Nat} {x : Str} {fs : List Str} (h : MkE P w K mg base j x fs) (l : j ≤ k) : MkE P w K mg base k x fs := by
  obtain ⟨⟨C, fI, fd, ps, h1, h2, h3, h4, h5, h6, h7, h8⟩, h9⟩ := h
  exact ⟨⟨C, fI, fd, ps, h1, h2, h3, h4, h5, h6, h7.mono l, h8⟩, h9⟩
theorem upd_swap {H : Hp} {a d : Addr} {o o2 u : HO} (h : d ≠ a) : upd (upd (upd H d o) a u) d o2 = upd (upd H d o2) a u := by
  funext b
  by_cases e : b = d
  · subst e
    rw [upd_same, upd_ne h, upd_same]
  · rw [upd_ne e]
    by_cases e2 : b = a
    · subst e2; rw [upd_same, upd_same]
    · rw [upd_ne e2, upd_ne e2, upd_ne e, upd_ne e]
/-- the text of an __init__ with one field, with two -/
def initB : List Str → List Str → List Stmt → Bool
  | [f], [s, y], [.Assign [.Attribute (.Name s1 _) f1 _] (.Name y1 _) _] => (f1 == f) && (s1 == s) && (y1 == y) && !dbgI s1 && !dbgI y1
  | [f, h], [s, y, z], [.Assign [.Attribute (.Name s1 _) f1 _] (.Name y1 _) _, .Assign [.Attribute (.Name s2 _) h1 _] (.Name z1 _) _] => (f1 == f) && (h1 == h) && (s1 == s) && (s2 == s) && (y1 == y) && (z1 == z) && !dbgI s1 && !dbgI y1 && !dbgI z1
  | _, _, _ => false
where dbgI (y : Str) : Bool := y == ("__debug__" : Str) || y == ("__classdict__" : Str)
theorem init_of {P : Program} {w : World} {K : Frg} {mg : Str → Option Value} {base : Heap} {k : Nat} {f C : Addr} {name qual : Str} {params : Arguments} {body : List Stmt} {scope : Scope} {dV kV doc pm cdv ct oc : Value} {an od : Option Addr}
    {osl : Array (Option Value)} {ps fs : List Str} (T : OexC K C) (hno : ∀ f ∈ fs, PySem.W.findIn K (.ref C) f = some none) (lk : K.lookup f = some ⟨oc, od, .func (PySem.W.fnOf name qual params body scope dV kV doc pm an cdv ct), osl⟩) (hcd : PySem.W.codeIn K cdv qual = true) (S : FnScope ps ps scope)
    (hb : initB fs ps body = true) (vis : ∀ y ∈ ps, Vis scope y) : FnOk P w K mg base (L2.CX P w) (k + 1) f (PySem.W.fnOf name qual params body scope dV kV doc pm an cdv ct) ps (spI C fs) := by
  unfold initB at hb
  split at hb
  · rename_i f1 s y s1 p1 g1 p2 y1 p3 p4
    simp only [Bool.and_eq_true, Bool.not_eq_true', initB.dbgI, Bool.or_eq_false_iff] at hb
    obtain ⟨⟨⟨⟨h1, h2⟩, h3⟩, h4, h5⟩, h6, h7⟩ := hb
    have e1 := eq_of_beq h1
    have e2 := eq_of_beq h2
    have e3 := eq_of_beq h3
    subst e1 e2 e3
    refine fn_of lk hcd S (fun vs H Q E ⟨a, us, e, l, _⟩ => by rw [e]; simpa using l) fun A outer s0 H vs Q E hr ⟨a, us, e, l, ha, q⟩ => ?_
    subst e
    cases us with
    | nil => simp at l
    | cons u us =>
      cases us with
      | cons _ _ => simp at l
      | nil =>
        refine ⟨_, pss_one (ps_ost (pe_var (i := 0) rfl (vis _ (by simp)) h4 h5) (pe_var (i := 1) rfl (vis _ (by simp)) h6 h7)), ?_⟩
        exact ⟨u, rfl, .ref a, rfl, a, C, rfl, T, hno _ (by simp), .inl ⟨ha, fun d hd ne => q d hd ne⟩⟩
  · rename_i f1 f2 s y z s1 p1 g1 p2 y1 p3 p4 s2 p5 g2 p6 z1 p7 p8
    simp only [Bool.and_eq_true, Bool.not_eq_true', initB.dbgI, Bool.or_eq_false_iff] at hb
    obtain ⟨⟨⟨⟨⟨⟨⟨⟨h1, h2⟩, h3⟩, h3b⟩, h4⟩, h5⟩, h6, h7⟩, h8, h9⟩, h10, h11⟩ := hb
    have e1 := eq_of_beq h1
    have e2 := eq_of_beq h2
    have e3 := eq_of_beq h3
    have e3b := eq_of_beq h3b
    have e4 := eq_of_beq h4
    have e5 := eq_of_beq h5
    subst e1 e2 e3 e4 e5
    subst e3b
    refine fn_of lk hcd S (fun vs H Q E ⟨a, us, e, l, _⟩ => by rw [e]; simpa using l) fun A outer s0 H vs Q E hr ⟨a, us, e, l, ha, q⟩ => ?_
    subst e
    match us, l, q with
    | [u, v], _, q =>
      refine ⟨_, pss_cons (ps_ost (pe_var (i := 0) rfl (vis _ (by simp)) h6 h7) (pe_var (i := 1) rfl (vis _ (by simp)) h8 h9)) (pss_one (ps_ost (pe_var (i := 0) rfl (vis _ (by simp)) h6 h7) (pe_var (i := 2) rfl (vis _ (by simp)) h10 h11))), ?_⟩
      refine ⟨u, rfl, .ref a, rfl, a, C, rfl, T, hno _ (by simp), .inl ⟨ha, fun d hd ne => ?_⟩⟩
      refine ⟨v, rfl, .ref a, rfl, a, C, rfl, T, hno _ (by simp), .inr ⟨d, _, upd_same, by rw [upd_ne ne]; exact upd_same, by simp, ?_⟩⟩
      have z := q d hd ne
      rw [upd_swap ne]
      exact z
  · cases hb
def raiseM (Φ : Env') (x : Str) (ms : M (List Rv)) : M Fl := match Φ.ex x with
  | some fs => M.bind ms fun rs => M.bind (frzs rs) fun ds => if fs.length = ds.length then (fun ρ => .exc ⟨x, (fs.zip ds).reverse⟩ ρ) else stuckM
  | none => stuckM
section
variable {X : Cx} {g : Gh} {E : WX} {F : List Nat} {Φ : Env'} {i : Nat} {p p1 p2 pt pos : Pos} {z t : Str} {W W0 : Wd} {σ : L2.St} {ρ : List Slot} {DD : Ends}
theorem raise_ends {x : Str} {ms : M (List Rv)} {fl : Fl} {ρ' : List Slot} (h : raiseM Φ x ms ρ = .ok fl ρ') : False := by
  unfold raiseM at h
  cases q : Φ.ex x with
  | none => rw [q] at h; cases h
  | some fs =>
    rw [q] at h
    simp only at h
    unfold M.bind at h
    split at h
    · simp only at h
      split at h
      · split at h
        · cases h
        · cases h
      · cases h
      · cases h
    · cases h
    · cases h
theorem pos_po {r : Res Fl} {K : Fl → Wd → Prop} (h : PoS g E F W σ DD r) (no : ∀ fl ρ', r ≠ .ok fl ρ') : Po g E W σ K r := by
  cases r with
  | ok fl ρ' => exact absurd rfl (no fl ρ')
  | exc e ρ' => exact fun cls od W' a so x => h cls od σ W' a so x
  | stuck => exact h
theorem paired_zip {K : Frg} {G : Hp} : ∀ {fs : List Str} {vs : List V} {ds : List D}, RpAll K G vs ds → Paired (fun (p : Str × V) (q : Str × D) => p.1 = q.1 ∧ Rp K G p.2 q.2) (fs.zip vs) (fs.zip ds)
  | [], vs, ds, h => by simp only [List.zip_nil_left]; exact .nil
  | f :: fs, _, _, .nil => .nil
  | f :: fs, _, _, .cons h r => .cons ⟨rfl, h⟩ (paired_zip r)
theorem paired_app {α β : Type} {R : α → β → Prop} {a1 a2 : List α} {b1 b2 : List β} (h : Paired R a1 b1) (h2 : Paired R a2 b2) : Paired R (a1 ++ a2) (b1 ++ b2) := by
  induction h with
  | nil => exact h2
  | cons h _ ih => exact .cons h ih
theorem paired_rev {α β : Type} {R : α → β → Prop} {a : List α} {b : List β} (h : Paired R a b) : Paired R a.reverse b.reverse := by
  induction h with
  | nil => exact .nil
  | cons h _ ih => rw [List.reverse_cons, List.reverse_cons]; exact paired_app ih (.cons h .nil)
theorem s_raise {x : Str} {e1 : Expr} {es : List Expr} {ms : M (List Rv)} {k : Nat} {pos2 : Pos} (hK : X.K = g.K) (hmg : X.mg = g.mg) (hc : X.calm = true) (tk : Takes X E) (hr : Room (k + 1) X.A) (hx : ∀ fs, Φ.ex x = some fs → MkE X.prog X.w X.K X.mg X.base k x fs) (hg : Gl X x) (hd : (x == ("__debug__" : Str)) = false)
    (ha : PA X (e1 :: es) (rdL g E ms)) (hs : starEach (e1 :: es) X.env = (false, eval e1 X.env) :: starEach es X.env) (hpl : (backTo pos (starEach es X.env)).any (·.1) = false) :
    PS X (.Raise (some (.Call (.Name x p) (e1 :: es) [] pos)) none pos2) (rdS g E F (raiseM Φ x ms)) := by
  cases q : Φ.ex x with
  | none =>
    refine ⟨fun pins s σ H D I ⟨W, ρ, eH, so, hp⟩ => ?_⟩
    unfold raiseM at hp
    rw [q] at hp
    exact hp.elim
  | some fs =>
    obtain ⟨⟨C, fI, fd, ps, k1, k2, k3, k4, k5, k6, k7, k8⟩, few⟩ := hx fs q
    refine (ps_raise hc tk (pmk_oex k4 k5 k6 k7 hr k8 .nil (L2.passes_call tk (fun _ _ _ _ h => h.elim)) hg k1 ha hd hs hpl)).weaken fun D σ H ⟨W, ρ, eH, so, hp⟩ => ?_
    subst eH
    have hp := pos_po (K := fun _ _ => False) hp fun fl ρ' h => raise_ends h
    unfold raiseM at hp
    rw [q] at hp
    refine rd_bindL (Ext.refl W) so hp fun rs ρ1 W1 vs a1 _ s1 rvs hp => ?_
    obtain ⟨ds, ρ2, W2, a2, eH2, s2, rp, _, _, hp⟩ := po_frzs hp a1 (Ext.refl W) s1 rvs
    split at hp
    · rename_i hl
      rw [← eH2]
      have lv : vs.length = fs.length := by rw [hl, rp.length]
      refine ⟨by rw [lv]; omega, fun a ha => ?_⟩
      rw [List.append_nil]
      refine ⟨a, vs, rfl, lv, upd_same, fun d hd ne => ⟨rfl, d, _, upd_same, by rw [upd_ne ne]; exact upd_same, by rw [upd_ne ne] at hd; exact hd, ?_⟩⟩
      rw [upd_ne ne] at hd
      obtain ⟨s3, e3⟩ := so_upd (o := .xd (fs.zip vs).reverse) (fz := true) s2 hd
      have fin := hp (.ref C) (some d) _ (a2.trans e3) s3 ⟨C, d, (fs.zip vs).reverse, rfl, by rw [← hmg]; exact k1, rfl, upd_same, paired_rev (paired_zip (RpAll.mono e3.fz rp))⟩
      have eq : upd (del (upd (upd (upd W2.H a (exo a C none)) d (exd d (fs.zip vs).reverse)) a (exo a C (some d))) a) d (.xd (fs.zip vs).reverse) = (W2.add d (.xd (fs.zip vs).reverse) true).H := by
        funext b
        show _ = upd W2.H d _ b
        by_cases e : b = d
        · subst e; rw [upd_same, upd_same]
        · rw [upd_ne e, upd_ne e]
          by_cases e2 : b = a
          · subst e2; rw [del_same, ha]
          · rw [del_ne e2, upd_ne e2, upd_ne e, upd_ne e2]
      rw [eq]
      exact fin
    · exact hp.elim
end
end PV
set_option Elab.async false
set_option linter.all false
set_option autoImplicit false
set_option maxRecDepth 100000
set_option maxHeartbeats 2000000
/-! PV: try, by what is read. -/
namespace PV
open PySem PySem.Spec PyProof.Rows L2
theorem test_four {X : Cx} {x y z u : Str} {c d f e : Value} {p1 p2 p3 p4 pt : Pos} {k : Nat} (hx : Names X x c) (hy : Names X y d) (hz : Names X z f) (hu : Names X u e) : TestOk X (.Tuple [.Name x p1, .Name y p2, .Name z p3, .Name u p4] k pt) (fun cls => PySem.W.exmAny X.K cls [c, d, f, e]) := by
  intro a pn σ H s cls b E Q I hb q
  refine wpAny_Tuple_spliced (Calls.spliced_cons (test_ev hx I (Calls.spliced_cons (test_ev hy I (Calls.spliced_cons (test_ev hz I (Calls.spliced_cons (test_ev hu I (Calls.spliced_nil ⟨by rw [sizeLine_eq]; simp, ?_⟩)))))))))
  have kp : ∀ b o, s.heap.get? b = some o → (s.heap.push { cls := .type "tuple", data := .seq [c, d, f, e].toArray }).get? b = some o := fun b o z => Heap.get?_push_of_some _ z
  exact q _ s.toks _ kp fun e LT => PySem.W.exm_tup4 (I.kIn.keeps kp) LT (Heap.get?_push_size _ rfl) hb
theorem names_of {X : Cx} {t : Str} {c : V} {T : Value} (hg : Gl X t) (hd : (t == ("__debug__" : Str)) = false) (h : TnOk X.mg t c T) : Names X t T :=
  ⟨hg, hd, h.at_.imp id fun ⟨a, b⟩ => ⟨a, b, h.ne⟩⟩
def noXM (m : M Fl) : M Fl := fun ρ => match m ρ with
  | .exc _ _ => .stuck
  | r => r
theorem noX_pos {g : Gh} {E E' : WX} {F : List Nat} {W W1 : Wd} {σ σ1 : L2.St} {ρ : List Slot} {D : Ends} {m : M Fl} (a : Ext W W1) (h : PoS g E [] W σ D (noXM m ρ)) : PoS g E' [] W1 σ1 D (m ρ) := by
  unfold noXM at h
  cases q : m ρ with
  | ok fl ρ' => rw [q] at h; exact fun W' σ' a' so f => h W' σ' (a.trans a') so (fun i hi => by cases hi)
  | exc e ρ' => rw [q] at h; exact h.elim
  | stuck => rw [q] at h; exact h.elim
/-- the clauses as they are read -/
inductive HsOk (X : Cx) (g : Gh) (Φ : Env') : List ExceptHandler → Hds → Prop
  | nil : HsOk X g Φ [] .nil
  | plain {t : Expr} {b₀ : Stmt} {suite : List Stmt} {pos : Pos} {hds : List ExceptHandler} {r : Hds} {ns : List Str} {su : Sts} {test : Value → Option Bool} (ht : TestOk X t test)
      (hn : ∀ x C b, X.mg x = some (.ref C) → anySub Φ x ns = some b → test (.ref C) = some b) (hs : ∀ a pn, PSs (X.suite a pn) (b₀ :: suite) (rdS g WF [] (exSs Φ su))) (h : HsOk X g Φ hds r) : HsOk X g Φ (.ExceptHandler (some t) none (b₀ :: suite) pos :: hds) (.cons ns none su r)
  | named {t : Expr} {n : Str} {i : Nat} {b₀ : Stmt} {suite : List Stmt} {pos : Pos} {hds : List ExceptHandler} {r : Hds} {ns : List Str} {su : Sts} {test : Value → Option Bool} (ht : TestOk X t test) (hi : X.N[i]? = some n) (hl : X.env.kindOf n = some .local)
      (hn : ∀ x C b, X.mg x = some (.ref C) → anySub Φ x ns = some b → test (.ref C) = some b) (hs : ∀ a pn, PSs (X.suite a pn) (b₀ :: suite) (rdS g WF [] (exSs Φ su))) (h : HsOk X g Φ hds r) : HsOk X g Φ (.ExceptHandler (some t) (some n) (b₀ :: suite) pos :: hds) (.cons ns (some i) su r)
section
variable {X : Cx} {g : Gh} {E : WX} {Φ : Env'} {pos : Pos}
theorem hx_of (hmg : X.mg = g.mg) {hds : List ExceptHandler} {hs : Hds} (h : HsOk X g Φ hds hs) : ∃ l, HX X hds l ∧ ∀ {D : Ends} {W0 W' : Wd} {σ0 σ' : L2.St} {ρ' : List Slot} {e : Exn} {cls : Value} {od : Option Addr},
    Ext W0 W' → SO g W' σ' ρ' → ExOk g W' e cls od → PoS g E [] W0 σ0 D (exH Φ e hs ρ') → wX E D l cls od σ' W'.H := by
  induction h with
  | nil =>
    refine ⟨[], .nil, fun {D W0 W' σ0 σ' ρ' e cls od} a so x hp => ?_⟩
    simp only [exH] at hp
    exact hp cls od σ' W' a so x
  | @plain t b₀ suite pos hds r ns su test ht hn hs h ih =>
    obtain ⟨l, h1, h2⟩ := ih
    refine ⟨⟨test, none, fun _ _ _ => rdS g WF [] (exSs Φ su)⟩ :: l, .plain ht (fun a pn _ _ => hs a pn) h1, fun {D W0 W' σ0 σ' ρ' e cls od} a so x hp => ?_⟩
    rw [exH] at hp
    obtain ⟨C, dx, fs, rfl, hm, rfl, hd, pr⟩ := id x
    rw [← hmg] at hm
    cases q : anySub Φ e.cls ns with
    | none => rw [q] at hp; exact hp.elim
    | some b =>
      rw [q] at hp
      refine ⟨b, hn _ _ _ hm q, fun e1 p hn => ?_, fun e1 => ?_⟩
      · subst e1
        have hp : PoS g E [] W0 σ0 D (noXM (exSs Φ su) ρ') := hp
        obtain ⟨s2, e2⟩ := so_upd (o := ExcH p (.ref C) (some dx)) (fz := true) so hn
        exact ⟨W'.add p (ExcH p (.ref C) (some dx)) true, ρ', rfl, s2, noX_pos (F := []) (a.trans e2) hp⟩
      · subst e1
        exact h2 a so x hp
  | @named t n i b₀ suite pos hds r ns su test ht hi hl hn hs h ih =>
    obtain ⟨l, h1, h2⟩ := ih
    refine ⟨⟨test, some i, fun _ _ _ => rdS g WF [] (exSs Φ su)⟩ :: l, .named ht hi hl (fun a pn _ _ => hs a pn) h1, fun {D W0 W' σ0 σ' ρ' e cls od} a so x hp => ?_⟩
    rw [exH] at hp
    obtain ⟨C, dx, fs, rfl, hm, rfl, hd, pr⟩ := id x
    have hm2 := hm
    rw [← hmg] at hm
    cases q : anySub Φ e.cls ns with
    | none => rw [q] at hp; exact hp.elim
    | some b =>
      rw [q] at hp
      refine ⟨b, hn _ _ _ hm q, fun e1 p hn => ?_, fun e1 => ?_⟩
      · subst e1
        simp only at hp
        obtain ⟨s2, e2⟩ := so_upd (o := ExcH p (.ref C) (some dx)) (fz := true) so hn
        have st : StOk g.K g.mg (W'.add p (ExcH p (.ref C) (some dx)) true).G (.ref p) (.exn e) :=
          ⟨p, C, dx, fs, rfl, hm2, upd_same, e2.fz _ _ hd, Paired.mapP pr fun u v z => ⟨z.1, Rp.mono e2.fz z.2⟩⟩
        have s3 := so_putS (i := i) s2 st
        refine ⟨W'.add p (ExcH p (.ref C) (some dx)) true, ρ'.set i (.st (.exn e)), rfl, s3, ?_⟩
        unfold M.bind store at hp
        split at hp
        · rename_i r1 q1
          split at q1
          · cases q1
          · cases q1
            simp only at hp
            cases q3 : exSs Φ su (ρ'.set i (.st (.exn e))) with
            | stuck => simp only [q3] at hp; exact hp.elim
            | exc _ _ => simp only [q3] at hp; exact hp.elim
            | ok fl ρ3 =>
              simp only [q3] at hp
              intro W3 σ3 a3 s4 f3
              have s5 : SO g W3 (σ3.set i none) (ρ3.set i .non) := by
                refine so_sub s4 (by rw [List.length_set, List.length_set]; exact s4.len) fun j s hj => ?_
                by_cases e : i = j
                · subst e
                  rw [List.getElem?_set] at hj
                  simp only [if_true] at hj
                  split at hj
                  · cases hj; exact .inr (.inl rfl)
                  · cases hj
                · rw [List.getElem?_set_ne e] at hj
                  exact .inr (.inr (.inl ⟨hj, List.getElem?_set_ne e⟩))
              have z := hp W3 (σ3.set i none) ((a.trans e2).trans a3) s5 (fun j hj => by cases hj)
              cases fl with
              | nx => exact z
              | brk => exact z
              | cnt => exact z
              | ret r => exact z
        · rename_i q1
          split at q1
          · cases q1
          · cases q1
        · exact hp.elim
      · subst e1
        exact h2 a so x hp
def tryM (mb : M Fl) (mh : Exn → M Fl) : M Fl := fun ρ => match mb ρ with
  | .exc e ρ' => mh e ρ'
  | r => r
theorem s_tryx {body : List Stmt} {h₀ : ExceptHandler} {hds : List ExceptHandler} {hs : Hds} {mb : M Fl} (hst : X.stack = X.env :: X.outer) (hf : X.env.frame = some X.env.locals) (hex : X.ex = []) (hN : X.N.Nodup) (tk : Takes X E) (hmg : X.mg = g.mg)
    (hb : ∀ (W : WX) (pn : List (Addr × Obj)) (xe : Value → Shared → Prop), Takes (X.tr pn xe) W → PassesOwn (model X.prog X.w) X.A X.env xe → PSs (X.tr pn xe) body (rdS g W [] mb)) (hh : HsOk X g Φ (h₀ :: hds) hs) :
    PS X (.Try body (h₀ :: hds) [] [] pos) (rdS g E [] (tryM mb fun e => exH Φ e hs)) := by
  obtain ⟨l, h1, h2⟩ := hx_of (E := E) hmg hh
  refine (ps_tryX hst hf hex hN tk hb h1).weaken fun D σ H ⟨W, ρ, eH, so, hp⟩ => ⟨W, ρ, eH, so, ?_⟩
  unfold tryM at hp
  cases q : mb ρ with
  | stuck => rw [q] at hp; exact hp.elim
  | ok fl ρ' => rw [q] at hp; exact hp
  | exc e ρ' =>
    rw [q] at hp
    exact fun cls od σ' W' a so' x => h2 a so' x hp
end
end PV
set_option Elab.async false
set_option linter.all false
set_option autoImplicit false
set_option maxRecDepth 100000
set_option maxHeartbeats 1000000
/-! PV: a dict of the module's top; xs[a:b] = ys. -/
namespace PV
open PySem PySem.Spec PyProof.Rows L2
/-- a dict of the module's top, texts its keys -/
structure DctK (P : Program) (w : World) (K : Frg) (a : Addr) (kvs : List (Str × D)) : Prop where
  ex : ∃ us : List (Str × Value), (∀ h : Heap, K.In h → h.DictOf (strKind P w) a us) ∧ ∀ k d, kvs.lookup k = some d → ∃ u v, valueAt us k = some u ∧ RelV v u ∧ ∀ G, Rp K G v d
section
variable {X : Cx} {g : Gh} {E : WX} {i : Expr} {ty : TE} {x : Str} {a : Addr} {us : List (Str × Value)} {p pos : Pos}
theorem pe_tab (hg : Gl X x) (hm : X.mg x = some (.ref a)) (hd : (x == ("__debug__" : Str)) = false) (hD : ∀ h : Heap, X.K.In h → h.DictOf (strKind X.prog X.w) a us) (hi : PE X i ty) (hs : NoSl i) :
    PE X (.Subscript (.Name x p) i pos) (fun σ H Q => ty σ H fun y H2 => ∃ k u v, y = .str k ∧ valueAt us k = some u ∧ RelV v u ∧ Q v H2) := by
  refine ⟨fun pins s σ H Q I h => ?_⟩
  refine subD_of PySem.F.slot_dict_getitem.lookup hs (thn ((pe_glob (v := .ref a) hg hm rfl hd).run pins s σ H (fun v H1 => v = .ref a ∧ H1 = H) I ⟨rfl, rfl⟩) fun u0 s1 ⟨x1, H1, I1, rx, ex, eH⟩ => ?_)
  subst ex eH
  obtain rfl : u0 = Value.ref a := rx
  refine thn (hi.run pins s1 σ H1 _ I1 h) fun iv s2 ⟨y, H2, I2, ry, k, u, v, ey, hv, rv, q2⟩ => ?_
  subst ey
  obtain ⟨t, rfl⟩ := ry
  have dd := hD s2.heap I2.kIn
  exact ⟨dd.typeIs, wpAny_getItem_of (strKind_is X.prog X.w k t) dd.mapOf hv ⟨v, H2, I2.tok _, rv, q2⟩⟩
theorem s_tab {kvs : List (Str × D)} {ma : M Rv} (hK : X.K = g.K) (hg : Gl X x) (hm : X.mg x = some (.ref a)) (hd : (x == ("__debug__" : Str)) = false) (hD : DctK X.prog X.w X.K a kvs) (hi : PE X i (rdE g E ma)) (hs : plainIx i = true) :
    PE X (.Subscript (.Name x p) i pos) (rdE g E (M.bind ma fun r => M.bind (peek r) fun d => tabV kvs d)) := by
  obtain ⟨us, h1, h2⟩ := hD.ex
  refine (pe_tab hg hm hd h1 hi (plainIx_ok hs)).weaken fun σ H Q ⟨W, ρ, eH, so, hp⟩ => ?_
  subst eH
  refine rd_bind (Ext.refl W) so hp fun r ρ1 W1 v a1 _ s1 rx hp => ?_
  obtain ⟨d, ed, hp⟩ := po_peek hp
  have rt := s1.cont rx ed
  cases d with
  | str k =>
    cases rt.str
    unfold tabV at hp
    simp only at hp
    cases q : kvs.lookup k with
    | none => rw [q] at hp; exact hp.elim
    | some y =>
      rw [q] at hp
      obtain ⟨u, v2, e1, e2, e3⟩ := h2 k y q
      have r3 := e3 W1.G
      rw [hK] at r3
      exact ⟨k, u, v2, rfl, e1, e2, hp W1 a1 s1 v2 r3⟩
  | _ => exact hp.elim
end
/-! ### xs[a:c] = ys -/
def gSl (to : TE) (tl th : TO) : TG := fun v σ H Q => to σ H fun x H1 => tl σ H1 fun lo H2 => th σ H2 fun hi H3 => ∃ (l b : Addr) (xs ys : List V) (a c : Int), x = .ref l ∧ v = .ref b ∧ lo = some a ∧ hi = some c ∧ H3 l = some (.lst xs) ∧ H3 b = some (.lst ys) ∧ l ≠ b ∧ 0 ≤ a ∧ a ≤ c ∧ c ≤ xs.length ∧
  xs.length + ys.length ≤ sizeLine ∧ Q σ (upd H3 l (.lst (xs.take a.toNat ++ ys ++ xs.drop c.toNat)))
section
variable {X : Cx} {o : Expr} {lo hi : Option Expr} {to : TE} {tl th : TO} {pos p2 : Pos}
theorem pg_setsl (ho : PE X o to) (hl : PO X lo tl) (hh : PO X hi th) : PG X (.Subscript o (.Slice lo hi none p2) pos) (gSl to tl th) := by
  refine ⟨fun pins s σ H v u Q I r h => ?_⟩
  show wpAny (model X.prog X.w) X.A (do
      let ov ← holding [u] (eval o X.env)
      let iv ← holding [u, ov] (eval (.Slice lo hi none p2) X.env)
      standAt pos
      holding [u, ov, iv] (setItem ov iv u)
      release [iv, u, ov] []) _ _ s
  refine wpAny_bind (wpAny_holding (thn (ho.run pins s σ H _ I h) fun ov s1 ⟨x, H1, I1, r1, q1⟩ => ?_))
  refine wpAny_bind (wpAny_holding ?_)
  refine wpAny_Slice (thn (hl.run pins s1 σ H1 _ I1 q1) fun vl s2 ⟨l, H2, I2, pl, q2⟩ => thn (hh.run pins s2 σ H2 _ I2 q2) fun vu s3 ⟨u2, H3, I3, pu, q3⟩ => ?_)
  rw [evalPart_none]
  refine wpAny_pure ?_
  obtain ⟨a, b, xs, ys, i, j, ex, ev, el, eh, k1, k2, k3, k4, k5, k6, k7, q⟩ := q3
  subst ex ev el eh
  obtain rfl : u = Value.ref b := r
  obtain rfl : ov = Value.ref a := r1
  cases pl with
  | int _ ti =>
    cases pu with
    | int _ tj =>
      have I4 : Inv X pins σ H3 { s3 with heap := s3.heap.push { cls := .type "slice", data := .fields #[.int i ti, .int j tj, .none] } } := I3.kept (t' := s3.toks) fun b ob q => Heap.get?_push_of_some _ q
      refine wpAny_bind (wpAny_standAt (wpAny_bind (wpAny_holding (set_slice I4 k1 k2 k3 (Heap.IsSliceOf.new ..) ⟨ti, rfl⟩ ⟨tj, rfl⟩ k4 k5 k6 k7 fun s' I5 => ?_))))
      exact wpAny_release ⟨σ, _, I5, q⟩
end
section
variable {X : Cx} {g : Gh} {E : WX} {F : List Nat} {lo hi : Option Expr} {ml mh : M (Option Int)} {pos p2 p3 : Pos} {x y : Str} {i j : Nat} {o e : Expr}
theorem rdS_bindO {D : Ends} {W0 W : Wd} {σ0 σ : L2.St} {ρ : List Slot} {m : M (Option Int)} {f : Option Int → M Fl} {Q : Option Int → Hp → Prop} (a : Ext W0 W) (so : SO g W σ ρ) (h : PoS g E F W0 σ0 D (M.bind m f ρ))
    (k : ∀ r ρ1 W1, Ext W0 W1 → Ext W W1 → SO g W1 σ ρ1 → PoS g E F W0 σ0 D (f r ρ1) → Q r W1.H) : rdO g E m σ W.H Q := by
  refine ⟨W, ρ, rfl, so, ?_⟩
  unfold M.bind at h
  cases q : m ρ with
  | ok r ρ1 => rw [q] at h; exact fun W1 e1 s1 => k r ρ1 W1 (a.trans e1) e1 s1 h
  | exc e ρ1 => rw [q] at h; exact fun cls od W1 e1 s1 x => h cls od σ W1 (a.trans e1) s1 x
  | stuck => rw [q] at h; exact h
theorem setSl_ok {ρ : List Slot} {o j : Nat} {a c : Option Int} : setSl o j a c ρ = .stuck ∨ ∃ (a' c' : Int) (pin : Option Nat) (xs : List D) (pin2 : Option Nat) (ys : List D), a = some a' ∧ c = some c' ∧ ρ[o]? = some (.own pin (.lst xs)) ∧ ρ[j]? = some (.own pin2 (.lst ys)) ∧
    (o ≠ j ∧ 0 ≤ a' ∧ a' ≤ c' ∧ c' ≤ xs.length ∧ fitsL (xs.length + ys.length) = true) ∧ setSl o j a c ρ = .ok .nx (ρ.set o (.own pin (.lst (xs.take a'.toNat ++ ys ++ xs.drop c'.toNat)))) := by
  unfold setSl
  split
  · rename_i h1 h2
    split
    · rename_i hc
      exact .inr ⟨_, _, _, _, _, _, rfl, rfl, by assumption, by assumption, hc, rfl⟩
    · exact .inl rfl
  · exact .inl rfl
theorem s_setS (he : PE X e (tVar j)) (ho : PE X o (tVar i)) (hl : PO X lo (rdO g E ml)) (hh : PO X hi (rdO g E mh)) (hs : isComp e = false) (ht : isTupE e = false)
    (h1 : (assignEach [.Subscript o (.Slice lo hi none p2) p3] X.env).map (·.2) = [assign (.Subscript o (.Slice lo hi none p2) p3) X.env]) :
    PS X (.Assign [.Subscript o (.Slice lo hi none p2) p3] e pos) (rdS g E F (fun ρ => if isOwn ρ[i]? && isOwn ρ[j]? then (M.bind ml fun a => M.bind mh fun c => setSl i j a c) ρ else .stuck)) := by
  refine (ps_asg he (pg_setsl ho hl hh) (show swapsWith e (some (.Subscript o (.Slice lo hi none p2) p3)) pos.line X.env = _ from sw_no hs) ss_sub h1).weaken fun D σ H ⟨W, ρ, eH, so, hp⟩ => ?_
  subst eH
  by_cases z0 : ¬ (isOwn ρ[i]? && isOwn ρ[j]?) = true
  · simp only [if_neg z0] at hp; exact hp.elim
  have z := Decidable.not_not.mp z0
  simp only [if_pos z] at hp
  rw [Bool.and_eq_true] at z
  obtain ⟨p, k2⟩ := own_any so z.1
  obtain ⟨q, k3⟩ := own_any so z.2
  unfold tAsg gSl
  refine ⟨_, k3, _, k2, ?_⟩
  refine rdS_bindO (Ext.refl W) so hp fun a ρ1 W1 a1 b1 s1 hp => ?_
  refine rdS_bindO a1 s1 hp fun c ρ2 W2 a2 b2 s2 hq => ?_
  rcases setSl_ok (o := i) (j := j) (a := a) (c := c) (ρ := ρ2) with h | ⟨a, c, pin, xs, pin2, ys, ea, ec, e1, e2, hc, h⟩
  · rw [h] at hq; exact hq.elim
  · rw [h] at hq
    subst ea ec
    obtain ⟨c1, c2, c3, c4, c5⟩ := hc
    obtain ⟨p', l1, l2, l3, l4⟩ := s2.slot e1
    rw [k2] at l1
    cases l1
    obtain ⟨q', m1, m2, m3, m4⟩ := s2.slot e2
    rw [k3] at m1
    cases m1
    obtain ⟨vs, n1, r1⟩ := l3
    obtain ⟨ws, n2, r2⟩ := m3
    have ne : p ≠ q := fun e => c1 (s2.inj i j _ _ _ _ p e1 e2 k2 (e ▸ k3))
    obtain ⟨n1', n2'⟩ := so_set (o := .lst (vs.take a.toNat ++ ws ++ vs.drop c.toNat)) (m' := .lst (xs.take a.toNat ++ ys ++ xs.drop c.toNat)) s2 e1 k2 ⟨_, upd_same, ((r1.take _).append r2).append (r1.drop _)⟩
    exact ⟨p, q, vs, ws, a, c, rfl, rfl, rfl, rfl, n1, n2, ne, c2, c3, by rw [r1.length]; exact c4, by rw [r1.length, r2.length]; exact fitsL_ok c5, hq _ σ (a2.trans n2') n1' (FK.refl F σ)⟩
end
end PV
set_option Elab.async false
set_option linter.all false
set_option autoImplicit false
set_option maxRecDepth 100000
set_option maxHeartbeats 2000000
/-! PV: the check of a text against the small language. -/
namespace PV
open PySem PySem.Spec PyProof.Rows L2
/-- what a check knows: the names' places, the scope, names that the module does not have, within a comprehension -/
structure Cs where
  N : List Str
  sc : Scope
  nb : List Str
  bl : Bool
  os : Scope := sc
def isStar : Expr → Bool
  | .Starred .. => true
  | _ => false
def noStar (es : List Expr) : Bool := es.all fun e => !isStar e
def isSet : Expr → Bool
  | .Set .. => true
  | _ => false
def plainT : Expr → Bool
  | .UnaryOp .Not .. | .BoolOp .. | .IfExp .. | .Compare .. => false
  | _ => true
def dbg (y : Str) : Bool := y == ("__debug__" : Str)
def vis (sc : Scope) (y : Str) : Bool := match sc.names.lookup y with
  | some .local | some .cell | some .free => true
  | _ => false
def isLoc (sc : Scope) (y : Str) : Bool := match sc.names.lookup y with
  | some .local => true
  | _ => false
def isLC (sc : Scope) (y : Str) : Bool := match sc.names.lookup y with
  | some .local | some .cell => true
  | _ => false
def glS (sc : Scope) (y : Str) : Bool := match sc.names.lookup y with
  | some .globalImplicit => true
  | _ => false
def nmAt (c : Cs) (i : Nat) (y : Str) : Bool := match c.N[i]? with
  | some z => z == y
  | none => false
def chV (c : Cs) (i : Nat) (y : Str) : Bool := nmAt c i y && vis c.sc y && !dbg y && !(y == ("__classdict__" : Str))
/-- a built-in's name -/
def chB (c : Cs) (x y : Str) : Bool := (y == x) && glS c.sc x && c.nb.contains x
/-- a name that may be stored -/
def chN (c : Cs) (i : Nat) (y : Str) : Bool := nmAt c i y && (if c.bl then isLoc c.sc y || (isLC c.sc y && (c.os.names.lookup y == some .cell)) else isLC c.sc y)
def rlS (sc scope : Scope) : Scope := { scope with names := scope.names.map fun (n, k) => if (k == .free && sc.kind == .function && sc.names.lookup n == some .cell) then (n, .cell) else (n, k) }
def chNs (c : Cs) : List Nat → List Expr → Bool
  | [], [] => true
  | i :: is, .Name y _ :: es => chN c i y && chNs c is es
  | _, _ => false
/-- names, the last of them behind a star -/
def chStr (c : Cs) : List Nat → Nat → List Expr → Bool
  | [], j, [.Starred (.Name y _) _] => chN c j y
  | i :: is, j, .Name y _ :: es => chN c i y && chStr c is j es
  | _, _, _ => false
def chG (c : Cs) : Tg → Expr → Bool
  | .nm i, .Name y _ => chN c i y
  | .tup is, .Tuple es _ _ => chNs c is es
  | .str is j, .Tuple es _ _ => chStr c is j es
  | _, _ => false
def chCl (c : Cs) : List Cl → List Expr → Bool
  | [], [] => true
  | t :: ts, .Name y _ :: es => chB c (clS t) y && chCl c ts es
  | _, _ => false
/-- classes of errors -/
def chXs (c : Cs) : List Str → List Expr → Bool
  | [], [] => true
  | t :: ts, .Name y _ :: es => (y == t) && glS c.sc t && !dbg t && chXs c ts es
  | _, _ => false
def chTest (c : Cs) : List Str → Expr → Bool
  | [t], .Name y _ => (y == t) && glS c.sc t && !dbg t
  | ts, .Tuple es _ _ => chXs c ts es && decide (2 ≤ ts.length) && decide (ts.length ≤ 4)
  | _, _ => false
/-- what a clause's suite may hold -/
def chSuE (c : Cs) : Ex → Expr → Bool
  | .var i, .Name y _ => chV c i y
  | .cst k, .Constant k' _ _ => decide (k' = k) && (cD k).isSome
  | .fld i f, .Attribute (.Name y _) n _ => chV c i y && (n == f)
  | _, _ => false
def chSu (c : Cs) : Sts → List Stmt → Bool
  | .cons (.asg (.nm j) e) .nil, [.Assign [.Name y _] e' _] => chN c j y && chSuE c e e' && !isComp e'
  | .cons (.ret e) .nil, [.Return (some e') _] => chSuE c e e'
  | .cons .retN .nil, [.Return none _] => true
  | .cons .cnt .nil, [.Continue _] => true
  | .cons .pass .nil, [.Pass _] => true
  | _, _ => false
def chSl (c : Cs) : Option Nat → Option Str → Bool
  | none, none => true
  | some i, some n => nmAt c i n && isLoc c.sc n
  | _, _ => false
def isTupT : Expr → Bool
  | .Tuple .. => true
  | _ => false
/-- a thing whose attribute is looked up plainly -/
def atOk : Expr → Bool
  | .Name .. | .Constant .. | .Subscript .. => true
  | _ => false
set_option maxHeartbeats 4000000
mutual
def chE : Cs → Ex → Expr → Bool
  | c, .cst k, e => match e with | .Constant k' _ _ => decide (k' = k) && (cD k).isSome | _ => false
  | c, .var i, e => match e with | .Name y _ => chV c i y | _ => false
  | c, .glob x, e => match e with | .Name y _ => (y == x) && glS c.sc x && !dbg x | _ => false
  | c, .bin o a b, e => match e with | .BinOp a' op b' _ => decide (op = opB o) && chE c a a' && chE c b b' | _ => false
  | c, .rep es k, e => match e with | .BinOp (.List es' _) .Mult k' _ => chEs c es es' && chE c k k' | _ => false
  | c, .neg a, e => match e with | .UnaryOp .USub a' _ => chE c a a' | _ => false
  | c, .cmp o a b, e => match e with | .Compare a' [op] [b'] _ => decide (op = opC o) && chE c a a' && chE c b b' && !behindInMarks op b' | _ => false
  | c, .chain o o' a b d, e => match e with | .Compare a' [op, op'] [b', d'] _ => decide (op = opC o) && decide (op' = opC o') && chE c a a' && chE c b b' && chE c d d' && !lastMarks [op, op'] [b', d'] | _ => false
  | c, .notv a, e => match e with | .UnaryOp .Not a' _ => chE c a a' | _ => false
  | c, .andv a b, e => match e with
    | .BoolOp .And [a', b'] _ => chE c a a' && chE c b b'
    | .BoolOp .And (a' :: b' :: d' :: r') p => chE c a a' && chE c b (.BoolOp .And (b' :: d' :: r') p)
    | _ => false
  | c, .orv a b, e => match e with
    | .BoolOp .Or [a', b'] _ => chE c a a' && chE c b b'
    | .BoolOp .Or (a' :: b' :: d' :: r') p => chE c a a' && chE c b (.BoolOp .Or (b' :: d' :: r') p)
    | _ => false
  | c, .ife t a b, e => match e with | .IfExp t' a' b' _ => chT c t t' && chE c a a' && chE c b b' | _ => false
  | c, .tup es, e => match e with | .Tuple es' _ _ => chEs c es es' | _ => false
  | c, .lst es, e => match e with | .List es' _ => chEs c es es' | _ => false
  | c, .idx a i, e => match e with | .Subscript a' i' _ => chE c a a' && chE c i i' && plainIx i' | _ => false
  | c, .slc a lo hi, e => match e with | .Subscript a' (.Slice lo' hi' none _) _ => chE c a a' && chO c lo lo' && chO c hi hi' | _ => false
  | c, .revl a, e => match e with | .Subscript a' (.Slice none none (some (.UnaryOp .USub (.Constant (.int 1) _ _) _)) _) _ => chE c a a' | _ => false
  | c, .stp a lo hi st, e => match e with | .Subscript a' (.Slice lo' hi' (some st') _) _ => chE c a a' && chO c lo lo' && chO c hi hi' && chO c st (some st') | _ => false
  | c, .sset a, e => match e with | .Call (.Name y _) [.Call (.Name z _) [a'] [] _] [] _ => chB c "sorted" y && chB c "set" z && chE c a a' && !isStar a' | _ => false
  | c, .lset a, e => match e with | .Call (.Name y _) [.Call (.Name z _) [a'] [] _] [] _ => chB c "len" y && chB c "set" z && chE c a a' && !isStar a' | _ => false
  | c, .call f es ks, e => match e with | .Call (.Name y _) es' ks' _ => (y == f) && glS c.sc f && !dbg f && chEs c es es' && chK c ks ks' && noStar es' | _ => false
  | c, .bi b es, e => match e with | .Call (.Name y _) es' [] _ => chB c (biN b) y && chEs c es es' && !es'.isEmpty && noStar es' | _ => false
  | c, .isa a t, e => match e with | .Call (.Name y _) [a', .Name z _] [] _ => chB c "isinstance" y && chB c (clS t) z && chE c a a' && !isStar a' | _ => false
  | c, .isas a ts, e => match e with | .Call (.Name y _) [a', .Tuple ts' _ _] [] _ => chB c "isinstance" y && chCl c ts ts' && decide (ts.length ≤ 100) && chE c a a' && !isStar a' | _ => false
  | c, .me m i es, e => match e with | .Call (.Attribute (.Name y _) nm apos) es' [] cpos => (nm == meN m) && chV c i y && chEs c es es' && noStar es' && (apos.endLine == cpos.line) && decide (es'.length < 30) | _ => false
  | c, .lc own elt tg it tt, e => match e with
    | .ListComp elt' [⟨tg', iter', ifs', 0⟩] scope _ => blkC c.N c.sc scope own && ((tgIx tg).all fun i => (own.map (·.2)).contains i) && chI c it tg' iter' && !isSet iter' &&
        chG { c with sc := rlS c.sc scope, bl := true, os := scope } tg tg' && chF { c with sc := rlS c.sc scope, bl := true, os := scope } tt ifs' && chE { c with sc := rlS c.sc scope, bl := true, os := scope } elt elt'
    | _ => false
  | c, .tab x a, e => match e with | .Subscript (.Name y _) i _ => (y == x) && glS c.sc x && !dbg x && chE c a i && plainIx i | _ => false
  | c, .lc2 own own1 elt tg it tt tg1 e1 tt1, e => match e with
    | .ListComp elt' [⟨tg', iter', ifs', 0⟩, ⟨tg1', iter1', ifs1', 0⟩] scope _ => blkC c.N c.sc scope own && ((tgIx tg).all fun i => (own.map (·.2)).contains i) && ((tgIx tg1).all fun i => own1.contains i) && (own1.all fun i => (own.map (·.2)).contains i) && chI c it tg' iter' && !isSet iter' && !isSet iter1' &&
        chG { c with sc := rlS c.sc scope, bl := true, os := scope } tg tg' && chF { c with sc := rlS c.sc scope, bl := true, os := scope } tt ifs' && chE { c with sc := rlS c.sc scope, bl := true, os := scope } e1 iter1' &&
        chG { c with sc := rlS c.sc scope, bl := true, os := scope } tg1 tg1' && chF { c with sc := rlS c.sc scope, bl := true, os := scope } tt1 ifs1' && chE { c with sc := rlS c.sc scope, bl := true, os := scope } elt elt'
    | _ => false
  | c, .tupRg it, e => match e with | .Call (.Name y _) [e'] [] _ => chB c "tuple" y && chR c it e' | _ => false
  | c, .frz a, e => chE c a e
  | c, .dnew, e => match e with | .Dict [] [] _ => true | _ => false
  | c, .dm m a es, e => match e with | .Call (.Attribute a' nm apos) (e1 :: es') [] cpos => (nm == dmN m) && atOk a' && chE c a a' && chEs c es (e1 :: es') && noStar (e1 :: es') && (apos.endLine == cpos.line) && decide (es'.length < 29) | _ => false
  | c, .lstRg it, e => match e with | .Call (.Name y _) [e'] [] _ => chB c "list" y && chR c it e' | _ => false
  | c, .isx i ts, e => match e with
    | .Call (.Name y _) [.Name z _, .Name t _] [] _ => chB c "isinstance" y && chV c i z && decide (ts = [t]) && glS c.sc t && !dbg t
    | .Call (.Name y _) [.Name z _, .Tuple es _ _] [] _ => chB c "isinstance" y && chV c i z && chXs c ts es && decide (ts.length ≤ 100) && !ts.isEmpty
    | _ => false
  | c, .fld i f, e => match e with | .Attribute (.Name y _) n _ => chV c i y && (n == f) | _ => false
def chEs : Cs → Exs → List Expr → Bool
  | c, .nil, es => es.isEmpty
  | c, .cons e es, es' => match es' with | e' :: r' => chE c e e' && !isStar e' && chEs c es r' | [] => false
  | c, .star e es, es' => match es' with | .Starred e' _ :: r' => chE c e e' && chEs c es r' | _ => false
def chK : Cs → Kws → List Keyword → Bool
  | c, .nil, ks => ks.isEmpty
  | c, .cons k e es, ks => match ks with | ⟨some k', e', _⟩ :: r' => (k' == k) && chE c e e' && chK c es r' | _ => false
def chO : Cs → Op → Option Expr → Bool
  | c, .no, e => e.isNone
  | c, .yes a, e => match e with | some a' => chE c a a' | none => false
def chT : Cs → Te → Expr → Bool
  | c, .cmp o a b, e => match e with | .Compare a' [op] [b'] _ => decide (op = opC o) && chE c a a' && chE c b b' && !behindInMarks op b' | _ => false
  | c, .chain o o' a b d, e => match e with | .Compare a' [op, op'] [b', d'] _ => decide (op = opC o) && decide (op' = opC o') && chE c a a' && chE c b b' && chE c d d' && !lastMarks [op, op'] [b', d'] | _ => false
  | c, .and ts, e => match e with | .BoolOp .And es _ => chTs c ts es && !es.isEmpty | _ => false
  | c, .or ts, e => match e with | .BoolOp .Or es _ => chTs c ts es && !es.isEmpty | _ => false
  | c, .not t, e => match e with | .UnaryOp .Not e' _ => chT c t e' | _ => false
  | c, .val a, e => chE c a e && plainT e
  | c, .isn i neg, e => match e with | .Compare (.Name y _) [op] [.Constant .none _ _] _ => chV c i y && decide (op = if neg then .IsNot else .Is) | _ => false
def chTs : Cs → Tes → List Expr → Bool
  | c, .nil, es => es.isEmpty
  | c, .cons t ts, es => match es with | e' :: r' => chT c t e' && chTs c ts r' | [] => false
/-- a comprehension's conditions: none or one -/
def chF : Cs → Tes → List Expr → Bool
  | c, .nil, es => es.isEmpty
  | c, .cons t ts, es => match es with | [e'] => chT c t e' && (match ts with | .nil => true | _ => false) | _ => false
def chR : Cs → Itr' → Expr → Bool
  | c, .rg1 a, e => match e with | .Call (.Name y _) [a'] [] _ => chB c "range" y && chE c a a' && !isStar a' | _ => false
  | c, .rg2 a b, e => match e with | .Call (.Name y _) [a', b'] [] _ => chB c "range" y && chE c a a' && chE c b b' && !isStar a' && !isStar b' | _ => false
  | c, .ex _, _ => false
  | c, .enum _, _ => false
  | c, .zip _ _, _ => false
  | c, .rg3 _ _ _, _ => false
def chI : Cs → Itr' → Expr → Expr → Bool
  | c, .ex a, tg, e => chE c a e
  | c, .rg1 a, tg, e => match e with | .Call (.Name y _) [a'] [] _ => chB c "range" y && chE c a a' && !isStar a' | _ => false
  | c, .rg2 a b, tg, e => match e with | .Call (.Name y _) [a', b'] [] _ => chB c "range" y && chE c a a' && chE c b b' && !isStar a' && !isStar b' | _ => false
  | c, .enum a, tg, e => match e with | .Call (.Name y _) [a'] [] _ => chB c "enumerate" y && chE c a a' && !isStar a' && isTupT tg | _ => false
  | c, .zip a b, tg, e => match e with | .Call (.Name y _) [a', b'] [] _ => chB c "zip" y && chE c a a' && chE c b b' && !isStar a' && !isStar b' && isTupT tg | _ => false
  | c, .rg3 a b d, tg, e => match e with | .Call (.Name y _) [a', b', d'] [] _ => chB c "range" y && chE c a a' && chE c b b' && chE c d d' && !isStar a' && !isStar b' && !isStar d' | _ => false
end
def swB (c : Cs) (y : Str) (p pos : Pos) (scope : Scope) : Bool := isLoc c.sc y && p.line == pos.line && !(scope.names.any fun (n, k) => n == y && (k == .local || k == .cell))
/-- a comprehension is stored by itself -/
def lcOk : Ex → Expr → Bool
  | .lc .., .ListComp .. => true
  | _, e => !isComp e
def isAttrT : Expr → Bool
  | .Attribute .. => true
  | _ => false
mutual
def chS : Cs → List Nat → St' → Stmt → Bool
  | c, F, .expr e, s => match s with | .Expr e' _ => chE c e e' && !isComp e' | _ => false
  | c, F, .asg t e, s => match t, s with
    | .nm i, .Assign [.Name y _] e' _ => chN c i y && !F.contains i && chE c e e' && lcOk e e'
    | .tup is, .Assign [.Tuple ts k p] e' _ => chG c (.tup is) (.Tuple ts k p) && (is.all fun i => !F.contains i) && chE c e e' && !isComp e' && !isTupE e'
    | .str is j, .Assign [.Tuple ts k p] e' _ => chG c (.str is j) (.Tuple ts k p) && ((is ++ [j]).all fun i => !F.contains i) && chE c e e' && !isComp e' && !isTupE e'
    | _, _ => false
  | c, F, .asg2 i j e, s => match s with | .Assign [.Name y _, .Name z _] e' _ => chN c i y && chN c j z && !F.contains i && !F.contains j && chE c e e' | _ => false
  | c, F, .par i j a b, s => match s with
    | .Assign [.Tuple [.Name x px, .Name y py] kt pt] (.Tuple [a', b'] k2 pt2) _ => nmAt c i x && nmAt c j y && isLoc c.sc x && isLoc c.sc y && !F.contains i && !F.contains j && decide (i ≠ j) && chE c a a' && chE c b b' && !isStar a' && !isStar b' &&
        (px.line == py.line) && !(([a', b'] : List Expr).all (foldedForSure 8)) && !(([a', b'] : List Expr).all (constantsAlone 8))
    | _ => false
  | c, F, .setI o i e, s => match s with | .Assign [.Subscript (.Name y _) i' _] e' _ => chV c o y && chE c i i' && plainIx i' && chE c e e' && !isComp e' | _ => false
  | c, F, .setS o lo hi j, s => match s with | .Assign [.Subscript (.Name y _) (.Slice lo' hi' none _) _] (.Name z _) _ => chV c o y && chV c j z && chO c lo lo' && chO c hi hi' | _ => false
  | c, F, .aug i o e, s => match s with | .AugAssign (.Name y _) op e' _ => chN c i y && !F.contains i && decide (op = opB o) && chE c e e' | _ => false
  | c, F, .augI o i op e, s => match s with | .AugAssign (.Subscript (.Name y _) i' _) op' e' _ => chV c o y && chE c i i' && plainIx i' && decide (op' = opB op) && chE c e e' | _ => false
  | c, F, .ret e, s => match s with | .Return (some e') _ => chE c e e' | _ => false
  | c, F, .retN, s => match s with | .Return none _ => true | _ => false
  | c, F, .ife t a b, s => match s with | .If t' a' b' _ => chT c t t' && chSs c F a a' && chSs c F b b' | _ => false
  | c, F, .loop tg it b, s => match s with | .For tg' it' b' [] _ => chG c tg tg' && chI c it tg' it' && !isSet it' && chSs c (lksOf it ++ F) b b' && ((tgIx tg).all fun i => !(lksOf it ++ F).contains i) | _ => false
  | c, F, .whl t b, s => match s with | .While t' b' [] _ => chT c t t' && chSs c F b b' | _ => false
  | c, F, .brk, s => match s with | .Break _ => true | _ => false
  | c, F, .cnt, s => match s with | .Continue _ => true | _ => false
  | c, F, .pass, s => match s with | .Pass _ => true | _ => false
  | c, F, .dead, s => true
  | c, F, .raise x es, s => match s with | .Raise (some (.Call (.Name y _) (e1 :: es') [] _)) none _ => (y == x) && glS c.sc x && !dbg x && chEs c es (e1 :: es') && noStar (e1 :: es') | _ => false
  | c, F, .tryx b hs, s => match s with | .Try b' (h :: hds) [] [] _ => F.isEmpty && chSs c [] b b' && chH c hs (h :: hds) | _ => false
def chH : Cs → Hds → List ExceptHandler → Bool
  | c, .nil, hs => hs.isEmpty
  | c, .cons ns sl su r, hs => match hs with | .ExceptHandler (some t) nm (s :: ss) _ :: r' => chTest c ns t && chSl c sl nm && chSu c su (s :: ss) && chH c r r' | _ => false
def chSs : Cs → List Nat → Sts → List Stmt → Bool
  | c, F, .nil, ss => ss.isEmpty
  | c, F, .cons s ss, ss' => match ss' with | s' :: r' => chS c F s s' && chSs c F ss r' | [] => false
end
/-! ### small facts -/
theorem star_ok {e : Expr} {es : List Expr} {env : Env} (h : isStar e = false) : starEach (e :: es) env = (false, eval e env) :: starEach es env := by
  cases e <;> first | rfl | cases h
theorem back_ok {es : List Expr} {env : Env} {pos : Pos} (h : noStar es = true) : (backTo pos (starEach es env)).any (·.1) = false := by
  induction es with
  | nil => rfl
  | cons e es ih =>
    have h : (!isStar e && noStar es) = true := h
    rw [Bool.and_eq_true, Bool.not_eq_true'] at h
    rw [star_ok h.1]
    show (false || (backTo pos (starEach es env)).any (·.1)) = false
    rw [ih h.2]
    rfl
theorem back_all {es : List Expr} {env : Env} {pos : Pos} (h : noStar es = true) : (backTo pos (starEach es env)).all (fun x => !x.1) = true := by
  induction es with
  | nil => rfl
  | cons e es ih =>
    have h : (!isStar e && noStar es) = true := h
    rw [Bool.and_eq_true, Bool.not_eq_true'] at h
    rw [star_ok h.1]
    show (true && (backTo pos (starEach es env)).all (fun x => !x.1)) = true
    rw [ih h.2]
    rfl
theorem asg_ok {e : Expr} {es : List Expr} {env : Env} (h : isStar e = false) : assignEach (e :: es) env = (false, assign e env) :: assignEach es env := by
  cases e <;> first | rfl | cases h
theorem noset_ok {e : Expr} {env : Env} {x : Value} (h : isSet e = false) : foldedSetIterable e env x = pure x := by
  cases e <;> first | rfl | cases h
theorem plainT_ok {e : Expr} {env : Env} (h : plainT e = true) : ∀ whole, isTrue e env whole = (do let v ← whole; standAt e.pos; holding [v] (truthy v)) := by
  intro w
  cases e with
  | UnaryOp op a p => cases op <;> first | rfl | cases h
  | BoolOp _ _ _ => cases h
  | IfExp _ _ _ _ => cases h
  | Compare _ _ _ _ => cases h
  | _ => rfl
theorem set_ok {o k : Expr} {pos : Pos} {env : Env} (h : plainIx k = true) : ∀ v, assign (.Subscript o k pos) env v = (do
      let ov ← holding [v] (eval o env)
      let iv ← holding [v, ov] (eval k env)
      standAt pos
      holding [v, ov, iv] (setItem ov iv v)
      release [v, ov, iv] []) := by
  intro v
  cases k <;> first | rfl | cases h
theorem sw_lc {elt : Expr} {gs : List Comprehension} {scope : Scope} {pos p : Pos} {t : Str} {l : Nat} {env : Env} : swapsWith (.ListComp elt gs scope pos) (some (.Name t p)) l env =
    pure (env.blockKind == .function && env.kindOf t == some .local && p.line == pos.line && !(scope.names.any fun (n, k) => n == t && (k == .local || k == .cell))) := rfl
theorem relabel_eq {scope : Scope} {env : Env} : relabel scope env = rlS env.scope scope := rfl
end PV
set_option Elab.async false
set_option linter.all false
set_option autoImplicit false
set_option maxRecDepth 100000
set_option maxHeartbeats 4000000
/-! PV: a text that passes the check does what is read. -/
namespace PV
open PySem PySem.Spec PyProof.Rows L2
structure XOk (X : Cx) (g : Gh) (E : WX) (k : Nat) (Φ : Env') (c : Cs) : Prop where
  K : X.K = g.K
  mg : X.mg = g.mg
  N : X.N = c.N
  nd : X.N.Nodup
  sc : X.env.scope = c.sc
  kd : X.env.scope.kind = .function
  calm : X.calm = true
  fn : c.bl = false → ∀ y, X.fn y = true
  fc : c.bl = true → ∀ y, (c.os.names.lookup y == some .cell) = true → X.fn y = true
  po : c.bl = false → PassesOwn (model X.prog X.w) X.A X.env X.xe
  tk : Takes X E
  room : Room k X.A
  gd : X.A.guards = some []
  fns : ∀ x S, Φ.fn x = some S → ∃ f, X.mg x = some (.ref f) ∧ PySem.W.keepIn X.K (.ref f) = true ∧ VFn X.prog X.w X.K X.mg X.base k f S
  gcs : ∀ x d, Φ.gc x = some d → ∃ u v, X.mg x = some u ∧ RelV v u ∧ ∀ G, Rp X.K G v d
  nbs : ∀ x, x ∈ c.nb → X.mg x = none
  exs : ∀ x fs, Φ.ex x = some fs → ∃ j, j + 1 ≤ k ∧ MkE X.prog X.w X.K X.mg X.base j x fs
  subs : TbAll X Φ
  tbs : ∀ x kvs, Φ.tb x = some kvs → ∃ a, X.mg x = some (.ref a) ∧ DctK X.prog X.w X.K a kvs
  top : c.bl = false → X.stack = X.env :: X.outer ∧ X.env.frame = some X.env.locals ∧ X.ex = []
section
variable {X : Cx} {g : Gh} {E : WX} {k : Nat} {Φ : Env'} {c : Cs}
theorem XOk.units (o : XOk X g E k Φ c) : X.A.units + 66 < cLine := by have := o.room.un; omega
theorem XOk.at_ (o : XOk X g E k Φ c) {i : Nat} {y : Str} (h : nmAt c i y = true) : X.N[i]? = some y := by
  unfold nmAt at h
  rw [o.N]
  split at h
  · rename_i z hz
    rw [hz, eq_of_beq h]
  · cases h
theorem XOk.isLoc (o : XOk X g E k Φ c) {y : Str} (h : isLoc c.sc y = true) : X.env.scope.names.lookup y = some .local := by
  rw [o.sc]
  unfold PV.isLoc at h
  split at h
  · assumption
  · cases h
theorem XOk.vis (o : XOk X g E k Φ c) {y : Str} (h : vis c.sc y = true) : Vis X.env.scope y := by
  unfold Vis
  rw [o.sc]
  unfold PV.vis at h
  split at h
  · exact .inl (by assumption)
  · exact .inr (.inl (by assumption))
  · exact .inr (.inr (by assumption))
  · cases h
theorem XOk.var (o : XOk X g E k Φ c) {i : Nat} {y : Str} {p : Pos} (h : chV c i y = true) : PE X (.Name y p) (tVar i) := by
  simp only [chV, Bool.and_eq_true, Bool.not_eq_true'] at h
  exact pe_var (o.at_ h.1.1.1) (o.vis h.1.1.2) h.1.2 h.2
theorem XOk.gl (o : XOk X g E k Φ c) {x : Str} (h : glS c.sc x = true) : Gl X x := by
  unfold Gl Env.kindOf
  rw [o.sc]
  unfold glS at h
  split at h
  · assumption
  · cases h
theorem XOk.bt (o : XOk X g E k Φ c) {x y : Str} (h : chB c x y = true) : y = x ∧ Gl X x ∧ X.mg x = none := by
  simp only [chB, Bool.and_eq_true, List.contains_eq_mem, decide_eq_true_eq] at h
  exact ⟨eq_of_beq h.1.1, o.gl h.1.2, o.nbs x h.2⟩
theorem XOk.stored (o : XOk X g E k Φ c) {i : Nat} {y : Str} (h : chN c i y = true) : X.N[i]? = some y ∧ Loc X.env.scope y ∧ (X.fn y = true ∨ X.env.scope.names.lookup y = some .local) := by
  simp only [chN, Bool.and_eq_true] at h
  refine ⟨o.at_ h.1, ?_⟩
  have lc : PV.isLC c.sc y = true → Loc X.env.scope y := fun h2 => by
    unfold L2.Loc
    rw [o.sc]
    unfold PV.isLC at h2
    split at h2
    · exact .inl (by assumption)
    · exact .inr (by assumption)
    · cases h2
  cases hb : c.bl with
  | true =>
    rw [hb] at h
    have h2 : (PV.isLoc c.sc y || (PV.isLC c.sc y && (c.os.names.lookup y == some .cell))) = true := by simpa using h.2
    rw [Bool.or_eq_true] at h2
    rcases h2 with h2 | h2
    · have := o.isLoc h2
      exact ⟨.inl this, .inr this⟩
    · rw [Bool.and_eq_true] at h2
      exact ⟨lc h2.1, .inl (o.fc hb y h2.2)⟩
  | false =>
    rw [hb] at h
    exact ⟨lc (by simpa using h.2), .inl (o.fn hb y)⟩
/-- within a comprehension -/
theorem XOk.blk (o : XOk X g E k Φ c) (s : Shared) (H : Hp) (scope : Scope) (C : Addr) (cl : List (Str × Addr)) (fp : List Addr) (hk : scope.kind = .function) : XOk (X.blk s H scope (compEnvC scope cl C X.env) fp) g WF k Φ { c with sc := rlS c.sc scope, bl := true, os := scope } :=
  ⟨o.K, o.mg, o.N, o.nd, by show relabel scope X.env = _; rw [relabel_eq, o.sc], hk, o.calm, fun h => (nomatch h), fun _ _ h => h, fun h => (nomatch h), fun _ _ ⟨_, _, _, _, _, _, _, _, _, _, _, _, _, _, _, _, w⟩ => w.elim, o.room, o.gd, o.fns, o.gcs, o.nbs, o.exs, o.subs, o.tbs, fun h => (nomatch h)⟩
theorem XOk.tgN (o : XOk X g E k Φ c) {i : Nat} {y : Str} {p : Pos} (h : chN c i y = true) : PG X (.Name y p) (gName i) := by
  obtain ⟨h1, h2, h3⟩ := o.stored h
  exact pg_name o.nd h1 h2 h3
theorem XOk.tgs (o : XOk X g E k Φ c) : ∀ {is : List Nat} {es : List Expr}, chNs c is es = true → PGs X es (rdGs g is) ∧ (assignEach es X.env).length = es.length ∧ (assignEach es X.env).findIdx? (·.1) = none ∧ is.length = es.length
  | [], [], _ => ⟨s_gsnil, rfl, rfl, rfl⟩
  | [], _ :: _, h => by cases h
  | _ :: _, [], h => by cases h
  | i :: is, e :: es, h => by
    cases e with
    | Name y p =>
      simp only [chNs, Bool.and_eq_true] at h
      obtain ⟨h1, h2, h3, h4⟩ := o.tgs h.2
      have e1 : assignEach (.Name y p :: es) X.env = (false, assign (.Name y p) X.env) :: assignEach es X.env := rfl
      refine ⟨s_gscons (o.tgN h.1) h1 (by rw [e1]; rfl), by rw [e1]; simp [h2], ?_, by simp [h4]⟩
      rw [e1, List.findIdx?_cons]
      simp [h3]
    | _ => cases h
theorem XOk.tgS (o : XOk X g E k Φ c) : ∀ {is : List Nat} {j : Nat} {es : List Expr}, chStr c is j es = true → PGs X es (rdGs g (is ++ [j])) ∧ (assignEach es X.env).length = is.length + 1 ∧ (assignEach es X.env).findIdx? (·.1) = some is.length
  | [], j, [], h => by unfold chStr at h; cases h
  | [], j, e :: e2 :: es, h => by
    cases e with
    | Starred e3 p => cases e3 <;> (unfold chStr at h; cases h)
    | _ => unfold chStr at h; cases h
  | [], j, [e], h => by
    cases e with
    | Starred e2 p =>
      cases e2 with
      | Name y p2 =>
        have h : chN c j y = true := h
        have z : PGs X [.Name y p2] (rdGs g ([] ++ [j])) := s_gscons (o.tgN h) s_gsnil rfl
        exact ⟨⟨fun pins s σ H vs us Q I r q => z.run pins s σ H vs us Q I r q⟩, rfl, rfl⟩
      | _ => unfold chStr at h; cases h
    | _ => unfold chStr at h; cases h
  | i :: is, j, [], h => by unfold chStr at h; cases h
  | i :: is, j, e :: es, h => by
    cases e with
    | Name y p =>
      have h : (chN c i y && chStr c is j es) = true := h
      rw [Bool.and_eq_true] at h
      obtain ⟨h1, h2, h3⟩ := o.tgS h.2
      have e1 : assignEach (.Name y p :: es) X.env = (false, assign (.Name y p) X.env) :: assignEach es X.env := rfl
      refine ⟨s_gscons (o.tgN h.1) h1 (by rw [e1]; rfl), by rw [e1]; simp [h2], ?_⟩
      rw [e1, List.findIdx?_cons]
      simp [h3]
    | _ => unfold chStr at h; cases h
theorem XOk.tg (o : XOk X g E k Φ c) {t : Tg} {e : Expr} (h : chG c t e = true) : PG X e (rdG g t) := by
  unfold chG at h
  split at h
  · exact s_gnm (o.tgN h)
  · obtain ⟨h1, h2, h3, h4⟩ := o.tgs h
    exact s_gtup o.K o.calm h1 h2 h3 h4
  · obtain ⟨h1, h2, h3⟩ := o.tgS h
    exact s_gstr o.K o.calm h1 h2 h3
  · cases h
theorem XOk.tgt (o : XOk X g E k Φ c) {is : List Nat} {e : Expr} (h : chG c (.tup is) e = true) : PG X e (rdGt g (.tup is)) := by
  cases e with
  | Tuple es kk p =>
    unfold chG at h
    obtain ⟨h1, h2, h3, h4⟩ := o.tgs h
    exact s_gtupT o.K o.calm h1 h2 h3 h4
  | _ => unfold chG at h; cases h
theorem XOk.tgtS (o : XOk X g E k Φ c) {is : List Nat} {j : Nat} {e : Expr} (h : chG c (.str is j) e = true) : PG X e (rdGt g (.str is j)) := by
  cases e with
  | Tuple es kk p =>
    unfold chG at h
    obtain ⟨h1, h2, h3⟩ := o.tgS h
    exact s_gstrT o.K o.calm h1 h2 h3
  | _ => unfold chG at h; cases h
theorem XOk.exC (o : XOk X g E k Φ c) : ∀ x fs, Φ.ex x = some fs → ∃ C, X.mg x = some (.ref C) ∧ EcC X.K C ∧ ∀ f ∈ fs, PySem.W.findIn X.K (.ref C) f = some none := fun x fs h => by
  obtain ⟨j, _, ⟨C, _, _, _, h1, h2, h3, _⟩, _⟩ := o.exs x fs h
  exact ⟨C, h1, h2, h3⟩
theorem tn_or (hT : TbAll X Φ) (t : Str) : (∃ c T, TnOk X.mg t c T) ∨ ∀ x, Φ.sub x t = none := by
  by_cases h : ∃ x b, Φ.sub x t = some b
  · obtain ⟨x, b, hb⟩ := h
    obtain ⟨C, c, T, _, tn, _⟩ := hT x t b hb
    exact .inl ⟨c, T, tn⟩
  · refine .inr fun x => ?_
    cases q : Φ.sub x t with
    | none => rfl
    | some b => exact absurd ⟨x, b, q⟩ h
theorem any_none {x : Str} {ts : List Str} {t : Str} (ht : t ∈ ts) (h : Φ.sub x t = none) : anySub Φ x ts = none := by
  induction ts with
  | nil => cases ht
  | cons t' ts ih =>
    unfold anySub
    rcases List.mem_cons.mp ht with e | e
    · subst e; rw [h]
    · rw [ih e]
      cases Φ.sub x t' <;> rfl
theorem chXs_ok (o : XOk X g E k Φ c) : ∀ {ts : List Str} {es : List Expr}, chXs c ts es = true → (∃ cs Ts, TnsOk X Φ ts es cs Ts) ∨ ∀ x, anySub Φ x ts = none ∧ ts ≠ []
  | [], [], _ => .inl ⟨[], [], .nil⟩
  | [], _ :: _, h => by cases h
  | _ :: _, [], h => by cases h
  | t :: ts, e :: es, h => by
    cases e with
    | Name y p =>
      simp only [chXs, Bool.and_eq_true, Bool.not_eq_true'] at h
      obtain ⟨⟨⟨h1, h2⟩, h3⟩, h4⟩ := h
      have h1 := eq_of_beq h1
      subst h1
      rcases tn_or o.subs y with ⟨c', T, tn⟩ | no
      · rcases chXs_ok o h4 with ⟨cs, Ts, r⟩ | no
        · exact .inl ⟨_, _, .cons (o.gl h2) h3 tn r⟩
        · refine .inr fun x => ⟨?_, by simp⟩
          unfold anySub
          rw [(no x).1]
          cases Φ.sub x y <;> rfl
      · exact .inr fun x => ⟨any_none (List.mem_cons_self ..) (no x), by simp⟩
    | _ => cases h
theorem tg_plain {t : Tg} {e : Expr} (h : chG c t e = true) : isStar e = false := by
  unfold chG at h
  split at h
  · rfl
  · rfl
  · rfl
  · cases h
theorem cls_at (o : XOk X g E k Φ c) : ∀ {cs : List Cl} {ts : List Expr}, chCl c cs ts = true → ts.length = cs.length ∧ ∀ (i : Nat) t, cs[i]? = some t → Gl X (clS t) ∧ X.mg (clS t) = none ∧ ∃ p, ts[i]? = some (.Name (clS t) p)
  | [], [], _ => ⟨rfl, fun i t h => by simp at h⟩
  | [], _ :: _, h => by cases h
  | _ :: _, [], h => by cases h
  | t :: cs, e :: ts, h => by
    cases e with
    | Name y p =>
      simp only [chCl, Bool.and_eq_true] at h
      obtain ⟨e1, h1, h2⟩ := o.bt h.1
      obtain ⟨l, at_⟩ := cls_at o h.2
      refine ⟨by simp [l], fun i t' hi => ?_⟩
      cases i with
      | zero =>
        have hi : t = t' := by simpa using hi
        subst hi
        exact ⟨h1, h2, p, by rw [e1]; rfl⟩
      | succ i =>
        obtain ⟨a1, a2, q, a3⟩ := at_ i t' (by simpa using hi)
        exact ⟨a1, a2, q, by simpa using a3⟩
    | _ => cases h
theorem s_frz {e : Expr} {ma : M Rv} (ha : PE X e (rdE g E ma)) : PE X e (rdE g E (M.bind ma fun r => M.bind (frz r) fun d => M.pure (.val d))) := by
  refine ha.weaken fun σ H Q ⟨W, ρ, eH, so, hp⟩ => ?_
  subst eH
  refine rd_bind (Ext.refl W) so hp fun x ρ1 W1 vx a1 _ s1 rx hp => ?_
  obtain ⟨d, ρ2, W2, a2, e2, s2, rp, _, _, _, hp⟩ := po_frz hp a1 (Ext.refl W) s1 rx
  rw [← e2]
  exact hp W2 a2 s2 vx rp
theorem s_dnew {pos : Pos} : PE X (.Dict [] [] pos) (rdE g E (M.pure (.fr (.dct [])))) := pe_dnewK.weaken fun σ H Q ⟨W, ρ, eH, so, hp⟩ => by
  subst eH
  intro p np
  obtain ⟨s1, e1⟩ := so_upd (o := .dK []) (fz := false) so np
  exact hp _ e1 s1 (.ref p) ⟨p, rfl, np, fun z => (so.og p z).2 np, so.gh.free np, [], upd_same, .nil⟩
theorem pe_false {e : Expr} {m : M Rv} (h : ∀ ρ, m ρ = .stuck) : PE X e (rdE g E m) := ⟨fun pins s σ H Q I ⟨W, ρ, eH, so, hp⟩ => by rw [h ρ] at hp; exact hp.elim⟩
theorem s_glob {x : Str} {p : Pos} (o : XOk X g E k Φ c) (h : glS c.sc x = true) (hd : dbg x = false) : PE X (.Name x p) (rdE g E (val1 (Φ.gc x))) := by
  cases q : Φ.gc x with
  | none => exact pe_false fun ρ => rfl
  | some d =>
    obtain ⟨u, v, h1, h2, h3⟩ := o.gcs x d q
    refine (pe_glob (v := v) (u := u) (o.gl h) h1 h2 hd).weaken fun σ H Q ⟨W, ρ, eH, so, hp⟩ => ?_
    subst eH
    have r := h3 W.G
    rw [o.K] at r
    exact hp W (Ext.refl W) so v r
/-! ### tests -/
variable {e : Expr} {mt : M Bool} {t : Te} {ts : Tes} {a b : Expr} {rest : List Expr} {pos : Pos}
theorem s_not (ha : PT X e (rdT g E mt)) : PT X (.UnaryOp .Not e pos) (rdT g E (M.bind mt fun k => M.pure (!k))) := by
  refine (pt_not ha).weaken fun σ H Q ⟨W, ρ, eH, so, hp⟩ => ?_
  subst eH
  exact rd_bindT (Ext.refl W) so hp fun k ρ1 W1 a1 _ s1 hp => hp W1 a1 s1
theorem s_valT {ma : M Rv} (hK : X.K = g.K) (ha : PE X e (rdE g E ma)) (h : plainT e = true) : PT X e (rdT g E (M.bind ma fun r => M.bind (peek r) fun d => lift (truV d))) := by
  refine (pt_truth ha (plainT_ok h)).weaken fun σ H Q ⟨W, ρ, eH, so, hp⟩ => ?_
  subst eH
  refine rd_bind (Ext.refl W) so hp fun x ρ1 W1 vx a1 _ s1 rx hp => ?_
  obtain ⟨dx, ex, hp⟩ := po_peek hp
  obtain ⟨k, ek, hp⟩ := po_lift1 hp
  exact ⟨k, by rw [hK]; exact truV_ok s1.gh (s1.cont rx ex) ek, hp W1 a1 s1⟩
theorem _root_.L2.PW.weaken {X : Cx} {e : Expr} {t t' : TT} (h : PW X e t) (w : ∀ σ H Q, t' σ H Q → t σ H Q) : PW X e t' := ⟨fun wh pins s σ H Q I q => h.run wh pins s σ H Q I (w _ _ _ q)⟩
theorem w_and1 (ha : PT X a (rdT g E (evT Φ t))) : PW X (.BoolOp .And [a] pos) (rdT g E (evAnd Φ (.cons t .nil))) := by
  refine (pw_and1 ha).weaken fun σ H Q ⟨W, ρ, eH, so, hp⟩ => ?_
  subst eH
  refine rd_bindT (Ext.refl W) so hp fun k ρ1 W1 a1 _ s1 hp => ?_
  cases k with
  | true => exact hp W1 a1 s1
  | false => exact hp W1 a1 s1
theorem w_or1 (ha : PT X a (rdT g E (evT Φ t))) : PW X (.BoolOp .Or [a] pos) (rdT g E (evOr Φ (.cons t .nil))) := by
  refine (pw_or1 ha).weaken fun σ H Q ⟨W, ρ, eH, so, hp⟩ => ?_
  subst eH
  refine rd_bindT (Ext.refl W) so hp fun k ρ1 W1 a1 _ s1 hp => ?_
  cases k with
  | true => exact hp W1 a1 s1
  | false => exact hp W1 a1 s1
theorem w_and (ha : PT X a (rdT g E (evT Φ t))) (hb : PW X (.BoolOp .And (b :: rest) pos) (rdT g E (evAnd Φ ts))) : PW X (.BoolOp .And (a :: b :: rest) pos) (rdT g E (evAnd Φ (.cons t ts))) := by
  refine (pw_and ha hb).weaken fun σ H Q ⟨W, ρ, eH, so, hp⟩ => ?_
  subst eH
  refine rd_bindT (Ext.refl W) so hp fun k ρ1 W1 a1 _ s1 hp => ?_
  cases k with
  | true => exact rd_goT a1 s1 hp
  | false => exact hp W1 a1 s1
theorem w_or (ha : PT X a (rdT g E (evT Φ t))) (hb : PW X (.BoolOp .Or (b :: rest) pos) (rdT g E (evOr Φ ts))) : PW X (.BoolOp .Or (a :: b :: rest) pos) (rdT g E (evOr Φ (.cons t ts))) := by
  refine (pw_or ha hb).weaken fun σ H Q ⟨W, ρ, eH, so, hp⟩ => ?_
  subst eH
  refine rd_bindT (Ext.refl W) so hp fun k ρ1 W1 a1 _ s1 hp => ?_
  cases k with
  | true => exact hp W1 a1 s1
  | false => exact rd_goT a1 s1 hp
theorem evK_len : ∀ (ks : Kws) {ρ ρ' : List Slot} {zs : List Rv}, evK Φ ks ρ = .ok zs ρ' → zs.length = ks.names.length
  | .nil, ρ, ρ', zs, h => by
    unfold evK at h
    cases h
    rfl
  | .cons k e es, ρ, ρ', zs, h => by
    unfold evK M.bind at h
    cases q : evE Φ e ρ with
    | exc _ _ => rw [q] at h; cases h
    | stuck => rw [q] at h; cases h
    | ok r ρ1 =>
      rw [q] at h
      simp only at h
      cases q2 : evK Φ es ρ1 with
      | exc _ _ => rw [q2] at h; cases h
      | stuck => rw [q2] at h; cases h
      | ok rs ρ2 =>
        rw [q2] at h
        cases h
        simp [Kws.names, evK_len es q2]
end
/-! ### the expressions -/
theorem ands (b : Bool) {c : Bool} (h : (b && c) = true) : b = true ∧ c = true := by rwa [Bool.and_eq_true] at h
theorem at_ok {o : Expr} {x : Str} {env : Env} (h : atOk o = true) : attributeBase o x env (eval o env) = eval o env := by
  cases o <;> first | rfl | cases h
mutual
theorem sndE : ∀ (x : Ex) {X : Cx} {g : Gh} {E : WX} {k : Nat} {Φ : Env'} {c : Cs} (o : XOk X g E k Φ c) {e : Expr}, chE c x e = true → PE X e (rdE g E (evE Φ x))
  | .cst kk, X, g, E, k, Φ, c, o, e, h => by
    unfold chE at h
    split at h
    · simp only [Bool.and_eq_true, decide_eq_true_eq] at h
      obtain ⟨h1, h2⟩ := h
      subst h1
      unfold evE
      exact s_cst h2
    · cases h
  | .var i, X, g, E, k, Φ, c, o, e, h => by
    unfold chE at h
    split at h
    · unfold evE
      exact s_var (o.var h)
    · cases h
  | .glob x, X, g, E, k, Φ, c, o, e, h => by
    unfold chE at h
    split at h
    · simp only [Bool.and_eq_true, Bool.not_eq_true'] at h
      obtain ⟨⟨h1, h2⟩, h3⟩ := h
      rw [eq_of_beq h1]
      unfold evE
      exact s_glob o h2 h3
    · cases h
  | .bin op a b, X, g, E, k, Φ, c, o, e, h => by
    unfold chE at h
    split at h
    · simp only [Bool.and_eq_true, decide_eq_true_eq] at h
      obtain ⟨⟨h1, h2⟩, h3⟩ := h
      subst h1
      unfold evE
      exact s_bin o.K op (sndE a o h2) (sndE b o h3)
    · cases h
  | .rep es kk, X, g, E, k, Φ, c, o, e, h => by
    unfold chE at h
    split at h
    · simp only [Bool.and_eq_true] at h
      unfold evE
      exact s_rep (sndEs es o h.1) (sndE kk o h.2)
    · cases h
  | .neg a, X, g, E, k, Φ, c, o, e, h => by
    unfold chE at h
    split at h
    · unfold evE
      exact s_neg (sndE a o h)
    · cases h
  | .cmp op a b, X, g, E, k, Φ, c, o, e, h => by
    unfold chE at h
    split at h
    · simp only [Bool.and_eq_true, decide_eq_true_eq, Bool.not_eq_true'] at h
      obtain ⟨⟨⟨h1, h2⟩, h3⟩, h4⟩ := h
      subst h1
      unfold evE
      exact s_cmp o.K (Nat.lt_of_succ_lt o.units) op (sndE a o h2) (sndE b o h3) h4
    · cases h
  | .chain op op' a b d, X, g, E, k, Φ, c, o, e, h => by
    unfold chE at h
    split at h
    · simp only [Bool.and_eq_true, decide_eq_true_eq, Bool.not_eq_true'] at h
      obtain ⟨⟨⟨⟨⟨h1, h2⟩, h3⟩, h4⟩, h5⟩, h6⟩ := h
      subst h1 h2
      unfold evE
      exact s_chain o.K (Nat.lt_of_succ_lt o.units) op op' (sndE a o h3) (sndE b o h4) (sndE d o h5) h6
    · cases h
  | .notv a, X, g, E, k, Φ, c, o, e, h => by
    unfold chE at h
    split at h
    · unfold evE
      exact s_notv o.K (sndE a o h)
    · cases h
  | .andv a b, X, g, E, k, Φ, c, o, e, h => by
    unfold chE at h
    split at h
    · simp only [Bool.and_eq_true] at h
      unfold evE
      exact s_andv o.K (sndE a o h.1) (pe_one (sndE b o h.2))
    · simp only [Bool.and_eq_true] at h
      unfold evE
      exact s_andv o.K (sndE a o h.1) (sndE b o h.2)
    · cases h
  | .orv a b, X, g, E, k, Φ, c, o, e, h => by
    unfold chE at h
    split at h
    · simp only [Bool.and_eq_true] at h
      unfold evE
      exact s_orv o.K (sndE a o h.1) (pe_one (sndE b o h.2))
    · simp only [Bool.and_eq_true] at h
      unfold evE
      exact s_orv o.K (sndE a o h.1) (sndE b o h.2)
    · cases h
  | .ife t a b, X, g, E, k, Φ, c, o, e, h => by
    unfold chE at h
    split at h
    · simp only [Bool.and_eq_true] at h
      unfold evE
      exact s_ife (sndT t o h.1.1) (sndE a o h.1.2) (sndE b o h.2)
    · cases h
  | .tup es, X, g, E, k, Φ, c, o, e, h => by
    unfold chE at h
    split at h
    · unfold evE
      exact s_tup (sndEs es o h)
    · cases h
  | .lst es, X, g, E, k, Φ, c, o, e, h => by
    unfold chE at h
    split at h
    · unfold evE
      exact s_lst (sndEs es o h)
    · cases h
  | .idx a i, X, g, E, k, Φ, c, o, e, h => by
    unfold chE at h
    split at h
    · simp only [Bool.and_eq_true] at h
      unfold evE
      exact s_idx o.K (by have := o.units; omega) (sndE a o h.1.1) (sndE i o h.1.2) h.2
    · cases h
  | .slc a lo hi, X, g, E, k, Φ, c, o, e, h => by
    unfold chE at h
    split at h
    · simp only [Bool.and_eq_true] at h
      unfold evE
      exact s_slc o.K (sndE a o h.1.1) (sndO lo o h.1.2) (sndO hi o h.2)
    · cases h
  | .revl a, X, g, E, k, Φ, c, o, e, h => by
    unfold chE at h
    split at h
    · unfold evE
      exact s_revl o.K (sndE a o h)
    · cases h
  | .stp a lo hi st, X, g, E, k, Φ, c, o, e, h => by
    unfold chE at h
    split at h
    · simp only [Bool.and_eq_true] at h
      unfold evE
      exact s_stp o.K (sndE a o h.1.1.1) (sndO lo o h.1.1.2) (sndO hi o h.1.2) (sndO st o h.2)
    · cases h
  | .sset a, X, g, E, k, Φ, c, o, e, h => by
    unfold chE at h
    split at h
    · simp only [Bool.and_eq_true, Bool.not_eq_true'] at h
      obtain ⟨⟨⟨n1, n2⟩, n3⟩, n4⟩ := h
      obtain ⟨e1, b1, b2⟩ := o.bt n1
      obtain ⟨e2, b3, b4⟩ := o.bt n2
      subst e1 e2
      unfold evE
      exact s_sset o.K o.calm (by have := o.units; omega) b1 b2 b3 b4 (sndE a o n3) (star_ok n4)
    · cases h
  | .lset a, X, g, E, k, Φ, c, o, e, h => by
    unfold chE at h
    split at h
    · simp only [Bool.and_eq_true, Bool.not_eq_true'] at h
      obtain ⟨⟨⟨n1, n2⟩, n3⟩, n4⟩ := h
      obtain ⟨e1, b1, b2⟩ := o.bt n1
      obtain ⟨e2, b3, b4⟩ := o.bt n2
      subst e1 e2
      unfold evE
      exact s_lset o.K o.calm b1 b2 b3 b4 (sndE a o n3) (star_ok n4)
    · cases h
  | .call f es ks, X, g, E, k, Φ, c, o, e, h => by
    unfold chE at h
    split at h
    · rename_i y p es' ks' pos
      simp only [Bool.and_eq_true, Bool.not_eq_true'] at h
      obtain ⟨⟨⟨⟨⟨h1, h2⟩, h3⟩, h4⟩, h5⟩, hns⟩ := h
      rw [eq_of_beq h1]
      cases q : Φ.fn f with
      | none =>
        refine pe_false fun ρ => ?_
        unfold evE
        rw [q]
        rfl
      | some S =>
        obtain ⟨fa, f1, f2, f3⟩ := o.fns f S q
        have ha := sndEs es o h4
        obtain ⟨hk1, hk2⟩ := sndK ks o h5
        unfold evE
        simp only [q]
        cases es' with
        | nil =>
          cases es with
          | cons a r => cases h4
          | star a r => cases h4
          | nil =>
            unfold evEs
            exact s_call0 o.K o.mg f3 o.room o.gd o.tk (o.gl h2) f1 f2 hk1 hk2.1 h3 fun ρ zs ρ' z => evK_len ks z
        | cons e1 es1 =>
          exact s_call o.K o.mg f3 o.room o.gd o.tk (o.gl h2) f1 f2 ha hk1 hk2.1 h3 (star_ok (by
            have z : (!isStar e1 && noStar es1) = true := hns
            rw [Bool.and_eq_true, Bool.not_eq_true'] at z
            exact z.1)) (back_ok hns) hk2.2 fun ρ zs ρ' z => evK_len ks z
    · cases h
  | .bi bb es, X, g, E, k, Φ, c, o, e, h => by
    unfold chE at h
    split at h
    · rename_i y p es' pos
      simp only [Bool.and_eq_true, Bool.not_eq_true'] at h
      obtain ⟨⟨⟨h1, h2⟩, h3⟩, hns⟩ := h
      obtain ⟨e1, b1, b2⟩ := o.bt h1
      subst e1
      have ha := sndEs es o h2
      unfold evE
      cases es' with
      | nil => cases h3
      | cons e1 es1 =>
        have z : (!isStar e1 && noStar es1) = true := hns
        rw [Bool.and_eq_true, Bool.not_eq_true'] at z
        exact s_bi o.K o.calm o.gd o.units bb b1 b2 ha (star_ok z.1) (back_ok z.2)
    · cases h
  | .isa a t, X, g, E, k, Φ, c, o, e, h => by
    unfold chE at h
    split at h
    · simp only [Bool.and_eq_true, Bool.not_eq_true'] at h
      obtain ⟨⟨⟨h1, h2⟩, h3⟩, h4⟩ := h
      obtain ⟨e1, b1, b2⟩ := o.bt h1
      obtain ⟨e2, b3, b4⟩ := o.bt h2
      subst e1 e2
      unfold evE
      exact s_isa o.K t b1 b2 b3 b4 (sndE a o h3) (star_ok h4)
    · cases h
  | .isas a ts, X, g, E, k, Φ, c, o, e, h => by
    unfold chE at h
    split at h
    · simp only [Bool.and_eq_true, Bool.not_eq_true', decide_eq_true_eq] at h
      obtain ⟨⟨⟨⟨h1, h2⟩, h3⟩, h4⟩, h5⟩ := h
      obtain ⟨e1, b1, b2⟩ := o.bt h1
      subst e1
      obtain ⟨l, at_⟩ := cls_at o h2
      unfold evE
      exact s_isas o.K ts h3 _ b1 b2 l at_ (sndE a o h4) (star_ok h5)
    · cases h
  | .me m i es, X, g, E, k, Φ, c, o, e, h => by
    unfold chE at h
    split at h
    · rename_i y p nm apos es' cpos
      simp only [Bool.and_eq_true, decide_eq_true_eq] at h
      obtain ⟨⟨⟨⟨⟨h1, h2⟩, h3⟩, hns⟩, h4⟩, h5⟩ := h
      rw [eq_of_beq h1]
      have ha := sndEs es o h3
      unfold evE
      cases es' with
      | nil =>
        cases es with
        | cons a r => cases h3
        | star a r => cases h3
        | nil =>
          unfold evEs
          exact s_me0 o.K m (o.var h2) rfl h4
      | cons e1 es1 =>
        have z : (!isStar e1 && noStar es1) = true := hns
        rw [Bool.and_eq_true, Bool.not_eq_true'] at z
        refine s_me o.K m (o.var h2) ha rfl ?_ h4 (star_ok z.1) (back_ok z.2)
        rw [back_all hns]
        simp only [Bool.true_and]
        have e0 : (backToKw cpos (keywordEach [] X.env)).all (fun x => x.1.isSome) = true := rfl
        rw [e0]
        simp only [Bool.true_and, decide_eq_true_eq, List.length_cons, List.length_nil, List.isEmpty_nil, if_true]
        simpa using h5
    · cases h
  | .lc own elt tg it tt, X, g, E, k, Φ, c, o, e, h => by
    unfold chE at h
    split at h
    · rename_i elt' tg' iter' ifs' scope pos
      simp only [Bool.and_eq_true, List.all_eq_true, List.contains_eq_mem, decide_eq_true_eq, Bool.not_eq_true'] at h
      obtain ⟨⟨⟨⟨⟨⟨h1, h2⟩, h3⟩, h4⟩, h5⟩, h6⟩, h7⟩ := h
      have ok : BlkOk X.N X.env.scope scope own := by rw [o.N, o.sc]; exact blkOk_by h1
      unfold evE
      exact s_lc o.calm o.nd (sndI it o h3) ok h2 (fun s H C cl fp => (o.blk s H scope C cl fp ok.kind).tg h5) (fun s H C cl fp => sndF tt (o.blk s H scope C cl fp ok.kind) h6) (fun s H C cl fp => sndE elt (o.blk s H scope C cl fp ok.kind) h7) fun x => noset_ok h4
    · cases h
  | .tab x a, X, g, E, k, Φ, c, o, e, h => by
    unfold chE at h
    split at h
    · simp only [Bool.and_eq_true, Bool.not_eq_true'] at h
      obtain ⟨⟨⟨⟨h1, h2⟩, h3⟩, h4⟩, h5⟩ := h
      rw [eq_of_beq h1]
      unfold evE
      cases q : Φ.tb x with
      | none => exact pe_false fun ρ => rfl
      | some kvs =>
        obtain ⟨A, e1, e2⟩ := o.tbs x kvs q
        exact s_tab o.K (o.gl h2) e1 h3 e2 (sndE a o h4) h5
    · cases h
  | .lc2 own own1 elt tg it tt tg1 e1 tt1, X, g, E, k, Φ, c, o, e, h => by
    unfold chE at h
    split at h
    · rename_i elt' tg' iter' ifs' tg1' iter1' ifs1' scope pos
      simp only [Bool.and_eq_true, List.all_eq_true, List.contains_eq_mem, decide_eq_true_eq, Bool.not_eq_true'] at h
      obtain ⟨⟨⟨⟨⟨⟨⟨⟨⟨⟨⟨⟨h1, h2⟩, h3⟩, h4⟩, h5⟩, h6⟩, h7⟩, h8⟩, h9⟩, ha⟩, hb⟩, hc⟩, hd⟩ := h
      have ok : BlkOk X.N X.env.scope scope own := by rw [o.N, o.sc]; exact blkOk_by h1
      unfold evE
      exact s_lc2 o.calm o.nd (sndI it o h5) ok h2 h3 h4 (fun s H C cl fp => (o.blk s H scope C cl fp ok.kind).tg h8) (fun s H C cl fp => sndF tt (o.blk s H scope C cl fp ok.kind) h9)
        (fun s H C cl fp => s_iexD o.K (sndE e1 (o.blk s H scope C cl fp ok.kind) ha)) (fun s H C cl fp => (o.blk s H scope C cl fp ok.kind).tg hb) (fun s H C cl fp => sndF tt1 (o.blk s H scope C cl fp ok.kind) hc)
        (fun s H C cl fp => sndE elt (o.blk s H scope C cl fp ok.kind) hd) (fun x => noset_ok h6) (fun env x => noset_ok h7)
    · cases h
  | .tupRg it, X, g, E, k, Φ, c, o, e, h => by
    unfold chE at h
    split at h
    · simp only [Bool.and_eq_true] at h
      obtain ⟨h1, h2⟩ := h
      obtain ⟨e1, b1, b2⟩ := o.bt h1
      subst e1
      unfold evE
      cases it with
      | ex a => cases h2
      | enum a => cases h2
      | zip _ _ => cases h2
      | rg3 _ _ _ => cases h2
      | rg1 a =>
        unfold chR at h2
        split at h2
        · simp only [Bool.and_eq_true, Bool.not_eq_true'] at h2
          obtain ⟨e2, b3, b4⟩ := o.bt h2.1.1
          subst e2
          unfold evI
          exact s_tupRg1 o.K o.calm b1 b2 b3 b4 (sndE a o h2.1.2) (star_ok h2.2)
        · cases h2
      | rg2 a b =>
        unfold chR at h2
        split at h2
        · simp only [Bool.and_eq_true, Bool.not_eq_true'] at h2
          obtain ⟨⟨⟨⟨n1, n2⟩, n3⟩, n4⟩, n5⟩ := h2
          obtain ⟨e2, b3, b4⟩ := o.bt n1
          subst e2
          unfold evI
          exact s_tupRg2 o.K o.calm b1 b2 b3 b4 (sndE a o n2) (sndE b o n3) (by rw [star_ok n4, star_ok n5]; rfl) (star_ok n5)
        · cases h2
    · cases h
  | .frz a, X, g, E, k, Φ, c, o, e, h => by
    unfold chE at h
    unfold evE
    exact s_frz (sndE a o h)
  | .dnew, X, g, E, k, Φ, c, o, e, h => by
    unfold chE at h
    split at h
    · unfold evE
      exact s_dnew
    · cases h
  | .dm m a es, X, g, E, k, Φ, c, o, e, h => by
    unfold chE at h
    split at h
    · rename_i a' nm apos e1 es' cpos
      simp only [Bool.and_eq_true, decide_eq_true_eq] at h
      obtain ⟨⟨⟨⟨⟨⟨h1, h2⟩, h3⟩, h4⟩, hns⟩, h5⟩, h6⟩ := h
      rw [eq_of_beq h1]
      have z : (!isStar e1 && noStar es') = true := hns
      rw [Bool.and_eq_true, Bool.not_eq_true'] at z
      unfold evE
      refine s_dm o.K o.units m (sndE a o h3) (sndEs es o h4) (at_ok h2) ?_ h5 (star_ok z.1) (back_ok z.2)
      rw [back_all hns]
      simp only [Bool.true_and]
      have e0 : (backToKw cpos (keywordEach [] X.env)).all (fun x => x.1.isSome) = true := rfl
      rw [e0]
      simp only [Bool.true_and, decide_eq_true_eq, List.length_cons, List.length_nil, List.isEmpty_nil, if_true]
      omega
    · cases h
  | .isx i ts, X, g, E, k, Φ, c, o, e, h => by
    have stuck : (∀ x, anySub Φ x ts = none) → ∀ ρ, isxM Φ i ts ρ = .stuck := fun no ρ => by
      unfold isxM
      split
      · rw [no]
      · rfl
    have red : evE Φ (.isx i ts) = isxM Φ i ts := by
      unfold evE
      rfl
    rw [red]
    unfold chE at h
    split at h
    · simp only [Bool.and_eq_true, Bool.not_eq_true', decide_eq_true_eq] at h
      obtain ⟨⟨⟨⟨h1, h2⟩, h3⟩, h4⟩, h5⟩ := h
      obtain ⟨e1, b1, b2⟩ := o.bt h1
      subst e1 h3
      rcases tn_or o.subs _ with ⟨c', T, tn⟩ | no
      · exact s_isx1 o.K o.mg o.subs b1 b2 (o.gl h4) h5 tn (o.var h2)
      · exact pe_false (stuck fun x => any_none (List.mem_singleton.mpr rfl) (no x))
    · simp only [Bool.and_eq_true, Bool.not_eq_true', decide_eq_true_eq] at h
      obtain ⟨⟨⟨⟨h1, h2⟩, h3⟩, h4⟩, h5⟩ := h
      obtain ⟨e1, b1, b2⟩ := o.bt h1
      subst e1
      have ne : ts ≠ [] := fun z => by rw [z] at h5; cases h5
      rcases chXs_ok o h3 with ⟨cs, Ts, tn⟩ | no
      · exact s_isxT o.K o.mg o.subs b1 b2 tn h4 ne (o.var h2)
      · exact pe_false (stuck fun x => (no x).1)
    · cases h
  | .fld i f, X, g, E, k, Φ, c, o, e, h => by
    have red : evE Φ (.fld i f) = fldM Φ i f := by
      unfold evE
      rfl
    rw [red]
    unfold chE at h
    split at h
    · simp only [Bool.and_eq_true] at h
      obtain ⟨h1, h2⟩ := h
      have h2 := eq_of_beq h2
      subst h2
      exact s_fld o.mg o.exC (o.var h1)
    · cases h
  | .lstRg it, X, g, E, k, Φ, c, o, e, h => by
    unfold chE at h
    split at h
    · simp only [Bool.and_eq_true] at h
      obtain ⟨h1, h2⟩ := h
      obtain ⟨e1, b1, b2⟩ := o.bt h1
      subst e1
      unfold evE
      cases it with
      | ex a => cases h2
      | enum a => cases h2
      | zip _ _ => cases h2
      | rg3 _ _ _ => cases h2
      | rg1 a =>
        unfold chR at h2
        split at h2
        · simp only [Bool.and_eq_true, Bool.not_eq_true'] at h2
          obtain ⟨e2, b3, b4⟩ := o.bt h2.1.1
          subst e2
          unfold evI
          exact s_lstRg1 o.K o.calm b1 b2 b3 b4 (sndE a o h2.1.2) (star_ok h2.2)
        · cases h2
      | rg2 a b =>
        unfold chR at h2
        split at h2
        · simp only [Bool.and_eq_true, Bool.not_eq_true'] at h2
          obtain ⟨⟨⟨⟨n1, n2⟩, n3⟩, n4⟩, n5⟩ := h2
          obtain ⟨e2, b3, b4⟩ := o.bt n1
          subst e2
          unfold evI
          exact s_lstRg2 o.K o.calm b1 b2 b3 b4 (sndE a o n2) (sndE b o n3) (by rw [star_ok n4, star_ok n5]; rfl) (star_ok n5)
        · cases h2
    · cases h
theorem sndEs : ∀ (x : Exs) {X : Cx} {g : Gh} {E : WX} {k : Nat} {Φ : Env'} {c : Cs} (o : XOk X g E k Φ c) {es : List Expr}, chEs c x es = true → PA X es (rdL g E (evEs Φ x))
  | .nil, X, g, E, k, Φ, c, o, es, h => by
    unfold chEs at h
    cases es with
    | nil => unfold evEs; exact s_nil
    | cons _ _ => cases h
  | .cons e r, X, g, E, k, Φ, c, o, es, h => by
    unfold chEs at h
    cases es with
    | nil => cases h
    | cons e' r' =>
      simp only [Bool.and_eq_true, Bool.not_eq_true'] at h
      obtain ⟨⟨h1, h2⟩, h3⟩ := h
      unfold evEs
      exact s_cons (sndE e o h1) (sndEs r o h3) (star_ok h2)
  | .star e r, X, g, E, k, Φ, c, o, es, h => by
    unfold chEs at h
    split at h
    · simp only [Bool.and_eq_true] at h
      unfold evEs
      exact s_star o.K (sndE e o h.1) (sndEs r o h.2) rfl
    · cases h
theorem sndK : ∀ (x : Kws) {X : Cx} {g : Gh} {E : WX} {k : Nat} {Φ : Env'} {c : Cs} (o : XOk X g E k Φ c) {ks : List Keyword}, chK c x ks = true → PK X ks (rdL g E (evK Φ x)) ∧ (keywordEach ks X.env).map (·.1) = x.names.map some ∧ ks.length = x.names.length
  | .nil, X, g, E, k, Φ, c, o, ks, h => by
    unfold chK at h
    cases ks with
    | nil => unfold evK; exact ⟨s_knil, rfl, rfl⟩
    | cons _ _ => cases h
  | .cons nm e r, X, g, E, k, Φ, c, o, ks, h => by
    unfold chK at h
    split at h
    · rename_i k' e' p r'
      simp only [Bool.and_eq_true] at h
      obtain ⟨⟨h1, h2⟩, h3⟩ := h
      obtain ⟨a1, a2, a3⟩ := sndK r o h3
      unfold evK
      refine ⟨s_kcons (sndE e o h2) a1, ?_, by simp [Kws.names, a3]⟩
      show some k' :: (keywordEach r' X.env).map (·.1) = _
      rw [a2, eq_of_beq h1]
      rfl
    · cases h
theorem sndO : ∀ (x : Op) {X : Cx} {g : Gh} {E : WX} {k : Nat} {Φ : Env'} {c : Cs} (o : XOk X g E k Φ c) {e : Option Expr}, chO c x e = true → PO X e (rdO g E (evO Φ x))
  | .no, X, g, E, k, Φ, c, o, e, h => by
    unfold chO at h
    cases e with
    | none => unfold evO; exact s_no
    | some _ => cases h
  | .yes a, X, g, E, k, Φ, c, o, e, h => by
    unfold chO at h
    cases e with
    | none => cases h
    | some e' => unfold evO; exact s_yes (sndE a o h)
theorem sndT : ∀ (x : Te) {X : Cx} {g : Gh} {E : WX} {k : Nat} {Φ : Env'} {c : Cs} (o : XOk X g E k Φ c) {e : Expr}, chT c x e = true → PT X e (rdT g E (evT Φ x))
  | .cmp op a b, X, g, E, k, Φ, c, o, e, h => by
    unfold chT at h
    split at h
    · simp only [Bool.and_eq_true, decide_eq_true_eq, Bool.not_eq_true'] at h
      obtain ⟨⟨⟨h1, h2⟩, h3⟩, h4⟩ := h
      subst h1
      unfold evT
      exact s_cmpT o.K (Nat.lt_of_succ_lt o.units) op (sndE a o h2) (sndE b o h3) h4
    · cases h
  | .chain op op' a b d, X, g, E, k, Φ, c, o, e, h => by
    unfold chT at h
    split at h
    · simp only [Bool.and_eq_true, decide_eq_true_eq, Bool.not_eq_true'] at h
      obtain ⟨⟨⟨⟨⟨h1, h2⟩, h3⟩, h4⟩, h5⟩, h6⟩ := h
      subst h1 h2
      unfold evT
      exact s_chainT o.K (Nat.lt_of_succ_lt o.units) op op' (sndE a o h3) (sndE b o h4) (sndE d o h5) h6
    · cases h
  | .and ts, X, g, E, k, Φ, c, o, e, h => by
    unfold chT at h
    split at h
    · rename_i es p
      simp only [Bool.and_eq_true, Bool.not_eq_true'] at h
      unfold evT
      cases es with
      | nil => cases h.2
      | cons a r => exact (sndAnd ts o h.1).pt
    · cases h
  | .or ts, X, g, E, k, Φ, c, o, e, h => by
    unfold chT at h
    split at h
    · rename_i es p
      simp only [Bool.and_eq_true, Bool.not_eq_true'] at h
      unfold evT
      cases es with
      | nil => cases h.2
      | cons a r => exact (sndOr ts o h.1).pt
    · cases h
  | .not t, X, g, E, k, Φ, c, o, e, h => by
    unfold chT at h
    split at h
    · unfold evT
      exact s_not (sndT t o h)
    · cases h
  | .isn i neg, X, g, E, k, Φ, c, o, e, h => by
    have red : evT Φ (.isn i neg) = isnM i neg := by
      unfold evT
      rfl
    rw [red]
    unfold chT at h
    split at h
    · simp only [Bool.and_eq_true, decide_eq_true_eq] at h
      exact s_isn h.2 (o.var h.1) pe_non
    · cases h
  | .val a, X, g, E, k, Φ, c, o, e, h => by
    unfold chT at h
    simp only [Bool.and_eq_true] at h
    unfold evT
    exact s_valT o.K (sndE a o h.1) h.2
theorem sndAnd : ∀ (x : Tes) {X : Cx} {g : Gh} {E : WX} {k : Nat} {Φ : Env'} {c : Cs} (o : XOk X g E k Φ c) {a : Expr} {r : List Expr} {p : Pos}, chTs c x (a :: r) = true → PW X (.BoolOp .And (a :: r) p) (rdT g E (evAnd Φ x))
  | .nil, X, g, E, k, Φ, c, o, a, r, p, h => by
    unfold chTs at h
    cases h
  | .cons t ts, X, g, E, k, Φ, c, o, a, r, p, h => by
    unfold chTs at h
    simp only [Bool.and_eq_true] at h
    cases r with
    | nil =>
      cases ts with
      | nil => exact w_and1 (sndT t o h.1)
      | cons t' ts' => have z := h.2; unfold chTs at z; cases z
    | cons b r' => exact w_and (sndT t o h.1) (sndAnd ts o h.2)
theorem sndOr : ∀ (x : Tes) {X : Cx} {g : Gh} {E : WX} {k : Nat} {Φ : Env'} {c : Cs} (o : XOk X g E k Φ c) {a : Expr} {r : List Expr} {p : Pos}, chTs c x (a :: r) = true → PW X (.BoolOp .Or (a :: r) p) (rdT g E (evOr Φ x))
  | .nil, X, g, E, k, Φ, c, o, a, r, p, h => by
    unfold chTs at h
    cases h
  | .cons t ts, X, g, E, k, Φ, c, o, a, r, p, h => by
    unfold chTs at h
    simp only [Bool.and_eq_true] at h
    cases r with
    | nil =>
      cases ts with
      | nil => exact w_or1 (sndT t o h.1)
      | cons t' ts' => have z := h.2; unfold chTs at z; cases z
    | cons b r' => exact w_or (sndT t o h.1) (sndOr ts o h.2)
theorem sndF : ∀ (x : Tes) {X : Cx} {g : Gh} {E : WX} {k : Nat} {Φ : Env'} {c : Cs} (o : XOk X g E k Φ c) {es : List Expr}, chF c x es = true → PTs X es (rdT g E (evAnd Φ x))
  | .nil, X, g, E, k, Φ, c, o, es, h => by
    unfold chF at h
    cases es with
    | cons _ _ => cases h
    | nil =>
      refine ⟨fun pins s σ H Q I ⟨W, ρ, eH, so, hp⟩ => pts_nil.run pins s σ H Q I ?_⟩
      subst eH
      unfold evAnd at hp
      exact hp W (Ext.refl W) so
  | .cons t ts, X, g, E, k, Φ, c, o, es, h => by
    unfold chF at h
    split at h
    · simp only [Bool.and_eq_true] at h
      cases ts with
      | cons t' ts' => cases h.2
      | nil =>
        refine ⟨fun pins s σ H Q I ⟨W, ρ, eH, so, hp⟩ => (pts_one (sndT t o h.1)).run pins s σ H Q I ?_⟩
        subst eH
        unfold evAnd at hp
        refine rd_bindT (Ext.refl W) so hp fun k ρ1 W1 a1 _ s1 hp => ?_
        cases k with
        | true => unfold evAnd at hp; exact hp W1 a1 s1
        | false => exact hp W1 a1 s1
    · cases h
theorem sndI : ∀ (x : Itr') {X : Cx} {g : Gh} {E : WX} {k : Nat} {Φ : Env'} {c : Cs} (o : XOk X g E k Φ c) {tg e : Expr}, chI c x tg e = true → PI X tg e (rdI g E (evI Φ x))
  | .ex a, X, g, E, k, Φ, c, o, tg, e, h => by
    unfold chI at h
    unfold evI
    exact s_iex o.K (sndE a o h)
  | .rg1 a, X, g, E, k, Φ, c, o, tg, e, h => by
    unfold chI at h
    split at h
    · simp only [Bool.and_eq_true, Bool.not_eq_true'] at h
      obtain ⟨e2, b3, b4⟩ := o.bt h.1.1
      subst e2
      unfold evI
      exact s_irg1 b3 b4 (sndE a o h.1.2) (star_ok h.2)
    · cases h
  | .rg2 a b, X, g, E, k, Φ, c, o, tg, e, h => by
    unfold chI at h
    split at h
    · simp only [Bool.and_eq_true, Bool.not_eq_true'] at h
      obtain ⟨⟨⟨⟨n1, n2⟩, n3⟩, n4⟩, n5⟩ := h
      obtain ⟨e2, b3, b4⟩ := o.bt n1
      subst e2
      unfold evI
      exact s_irg2 b3 b4 (sndE a o n2) (sndE b o n3) (by rw [star_ok n4, star_ok n5]; rfl) (star_ok n5)
    · cases h
  | .enum a, X, g, E, k, Φ, c, o, tg, e, h => by
    unfold chI at h
    split at h
    · simp only [Bool.and_eq_true, Bool.not_eq_true'] at h
      obtain ⟨⟨⟨n1, n2⟩, n3⟩, n4⟩ := h
      obtain ⟨e2, b3, b4⟩ := o.bt n1
      subst e2
      unfold evI
      cases tg with
      | Tuple es kk p => exact s_ienum o.K b3 b4 (sndE a o n2) (star_ok n3)
      | _ => cases n4
    · cases h
  | .zip a b, X, g, E, k, Φ, c, o, tg, e, h => by
    unfold chI at h
    split at h
    · simp only [Bool.and_eq_true, Bool.not_eq_true'] at h
      obtain ⟨⟨⟨⟨⟨n1, n2⟩, n3⟩, n4⟩, n5⟩, n6⟩ := h
      obtain ⟨e2, b3, b4⟩ := o.bt n1
      subst e2
      unfold evI
      cases tg with
      | Tuple es kk p => exact s_izip o.K b3 b4 (sndE a o n2) (sndE b o n3) (by rw [star_ok n4, star_ok n5]; rfl) (star_ok n5)
      | _ => cases n6
    · cases h
  | .rg3 a b d, X, g, E, k, Φ, c, o, tg, e, h => by
    unfold chI at h
    split at h
    · simp only [Bool.and_eq_true, Bool.not_eq_true'] at h
      obtain ⟨⟨⟨⟨⟨⟨n1, n2⟩, n3⟩, n4⟩, n5⟩, n6⟩, n7⟩ := h
      obtain ⟨e2, b3, b4⟩ := o.bt n1
      subst e2
      unfold evI
      exact s_irg3 b3 b4 (sndE a o n2) (sndE b o n3) (sndE d o n4) (by rw [star_ok n5, star_ok n6, star_ok n7]; rfl) (by rw [star_ok n6, star_ok n7]; rfl) (star_ok n7)
    · cases h
end
end PV
set_option Elab.async false
set_option linter.all false
set_option autoImplicit false
set_option maxRecDepth 100000
set_option maxHeartbeats 4000000
/-! PV: statements and bodies that pass the check. -/
namespace PV
open PySem PySem.Spec PyProof.Rows L2
section
variable {X : Cx} {g : Gh} {E : WX} {k : Nat} {Φ : Env'} {c : Cs} {F : List Nat}
/-- name = [.. for ..], the block's store -/
theorem s_setLc {i : Nat} {y : Str} {p spos : Pos} {own : List (Str × Nat)} {elt : Ex} {tg : Tg} {it : Itr'} {tt : Tes} {e : Expr} (o : XOk X g E k Φ c) (hb : c.bl = false) (h1 : chN c i y = true) (hF : i ∉ F) (h : chE c (.lc own elt tg it tt) e = true) (hl : lcOk (.lc own elt tg it tt) e = true) :
    PS X (.Assign [.Name y p] e spos) (rdS g E F (M.bind (evE Φ (.lc own elt tg it tt)) fun r => M.bind (store i r) fun _ => M.pure .nx)) := by
  obtain ⟨n1, n2, n3⟩ := o.stored h1
  have full := sndE _ o h
  unfold chE at h
  split at h
  · rename_i elt' tg' iter' ifs' scope pos
    cases sw : (X.env.blockKind == .function && X.env.kindOf y == some .local && p.line == pos.line && !(scope.names.any fun (n, k) => n == y && (k == .local || k == .cell))) with
    | false => exact s_set o.nd n1 n2 n3 hF full (by rw [sw_lc, sw])
    | true =>
      have hy : X.env.scope.names.lookup y = some .local := by
        simp only [Bool.and_eq_true] at sw
        exact eq_of_beq sw.1.1.2
      simp only [Bool.and_eq_true, List.all_eq_true, List.contains_eq_mem, decide_eq_true_eq, Bool.not_eq_true'] at h
      obtain ⟨⟨⟨⟨⟨⟨h1, h2⟩, h3⟩, h4⟩, h5⟩, h6⟩, h7⟩ := h
      have ok : BlkOk X.N X.env.scope scope own := by rw [o.N, o.sc]; exact blkOk_by h1
      refine (ps_setLc o.calm o.nd n1 hy (by rw [sw_lc, sw]) (sndI it o h3) ok (fun s H C cl fp => (o.blk s H scope C cl fp ok.kind).tg h5) (fun s H C cl fp => sndF tt (o.blk s H scope C cl fp ok.kind) h6) (fun s H C cl fp => sndE elt (o.blk s H scope C cl fp ok.kind) h7) (fun x => noset_ok h4)).weaken fun D σ H ⟨W, ρ, eH, so, hp⟩ => ?_
      subst eH
      have r := set_read so hF hp
      unfold tAsg at r ⊢
      unfold evE at r
      exact lc_read h2 r
  · cases h
theorem par_swap {x y : Str} {a b : Expr} {px py pt pt2 : Pos} {kt k2 : Nat} {env : Env} (hk : env.scope.kind = .function) (hx : env.scope.names.lookup x = some .local) (hy : env.scope.names.lookup y = some .local) (hxy : x ≠ y) (hl : (px.line == py.line) = true) (ha : isStar a = false) (hb : isStar b = false)
    (h1 : ([a, b] : List Expr).all (foldedForSure 8) = false) (h2 : ([a, b] : List Expr).all (constantsAlone 8) = false) : swappedStores [.Tuple [.Name x px, .Name y py] kt pt] (.Tuple [a, b] k2 pt2) env = pure (some [x, y]) := by
  have kx : env.kindOf x = some .local := hx
  have ky : env.kindOf y = some .local := hy
  have bk : env.blockKind = .function := by unfold Env.blockKind; rw [hk]; rfl
  have hs : ([a, b] : List Expr).any (fun | .Starred .. => true | _ => false) = false := by
    have : ∀ e : Expr, isStar e = false → (match e with | .Starred .. => true | _ => false) = false := fun e h => by cases e <;> first | rfl | cases h
    simp only [List.any_cons, List.any_nil, Bool.or_false]
    rw [this a ha, this b hb]
    rfl
  have hne : (y == x) = false := by rw [beq_eq_false_iff_ne]; exact fun e => hxy e.symm
  have hl' : (py.line == px.line) = true := by
    have := eq_of_beq hl
    rw [this]
    exact beq_self_eq_true _
  have hd : ([x, y] : List Str).eraseDups = [x, y] := by
    simp [List.eraseDups_cons, hne]
  unfold swappedStores
  simp only [bk, hs, kx, ky, h1, h2, hl', Expr.pos, List.length_cons, List.length_nil, List.filterMap_cons, List.filterMap_nil, List.head?_cons, Option.map_some, Option.getD_some, hd, beq_self_eq_true, Bool.and_self, if_true, Bool.true_or, Bool.not_true, bne_self_eq_false, Bool.or_false, Bool.false_eq_true, if_false, Bool.or_self]
  exact if_neg fun z => absurd (hs.symm.trans z) Bool.false_ne_true
theorem notin {F : List Nat} {i : Nat} (h : F.contains i = false) : i ∉ F := by
  intro z
  rw [List.contains_eq_mem, decide_eq_false_iff_not] at h
  exact h z
theorem XOk.tr (o : XOk X g E k Φ c) {W : WX} {pn : List (Addr × Obj)} {xe : Value → Shared → Prop} (tk : Takes (X.tr pn xe) W) (po : PassesOwn (model X.prog X.w) X.A X.env xe) : XOk (X.tr pn xe) g W k Φ c :=
  ⟨o.K, o.mg, o.N, o.nd, o.sc, o.kd, o.calm, o.fn, o.fc, fun _ => po, tk, o.room, o.gd, o.fns, o.gcs, o.nbs, o.exs, o.subs, o.tbs, o.top⟩
/-- in a clause's suite -/
theorem snd_suE (o : XOk X g E k Φ c) {a : Addr} {pn : List (Addr × Obj)} {x : Ex} {e : Expr} (h : chSuE c x e = true) : PE (X.suite a pn) e (rdE g WF (evE Φ x)) := by
  have var : ∀ {i : Nat} {y : Str} {p : Pos}, chV c i y = true → PE (X.suite a pn) (.Name y p) (tVar i) := fun {i y p} h => by
    simp only [chV, Bool.and_eq_true, Bool.not_eq_true'] at h
    exact pe_var (X := X.suite a pn) (o.at_ h.1.1.1) (o.vis h.1.1.2) h.1.2 h.2
  unfold chSuE at h
  split at h
  · unfold evE
    exact s_var (var h)
  · simp only [Bool.and_eq_true, decide_eq_true_eq] at h
    obtain ⟨h1, h2⟩ := h
    subst h1
    unfold evE
    exact s_cst h2
  · rename_i i f y p1 n p2
    simp only [Bool.and_eq_true] at h
    have h2 := eq_of_beq h.2
    subst h2
    have red : evE Φ (.fld i n) = fldM Φ i n := by
      unfold evE
      rfl
    rw [red]
    exact s_fld (X := X.suite a pn) o.mg o.exC (var h.1)
  · cases h
theorem snd_su (o : XOk X g E k Φ c) (hb : c.bl = false) {a : Addr} {pn : List (Addr × Obj)} {x : Sts} {s : List Stmt} (h : chSu c x s = true) : PSs (X.suite a pn) s (rdS g WF [] (exSs Φ x)) := by
  have one : ∀ {x : St'} {s : Stmt}, PS (X.suite a pn) s (rdS g WF [] (exS Φ x)) → PSs (X.suite a pn) [s] (rdS g WF [] (exSs Φ (.cons x .nil))) := fun {x s} h => by
    unfold exSs
    refine s_scons h ?_
    unfold exSs
    exact s_snil
  unfold chSu at h
  split at h
  · simp only [Bool.and_eq_true, Bool.not_eq_true'] at h
    obtain ⟨⟨h1, h2⟩, h3⟩ := h
    obtain ⟨n1, n2, n3⟩ := o.stored h1
    refine one ?_
    unfold exS
    exact s_set (X := X.suite a pn) o.nd n1 n2 n3 (by simp) (snd_suE o h2) (sw_no h3)
  · refine one ?_
    unfold exS
    exact s_ret (snd_suE o h)
  · refine one ?_
    unfold exS
    exact s_retN
  · refine one ?_
    unfold exS
    exact s_cnt
  · refine one ?_
    unfold exS
    exact s_pass
  · cases h
theorem test_of (o : XOk X g E k Φ c) {ns : List Str} {t : Expr} (h : chTest c ns t = true) : ∃ test, TestOk X t test ∧ ∀ x C b, X.mg x = some (.ref C) → anySub Φ x ns = some b → test (.ref C) = some b := by
  have none_ : (∀ x, anySub Φ x ns = none) → ∃ test, TestOk X t test ∧ ∀ x C b, X.mg x = some (.ref C) → anySub Φ x ns = some b → test (.ref C) = some b := fun no =>
    ⟨fun _ => none, fun _ _ _ _ _ _ _ _ _ _ z => (nomatch z), fun x C b _ z => by rw [no] at z; cases z⟩
  unfold chTest at h
  split at h
  · rename_i t' y p
    simp only [Bool.and_eq_true, Bool.not_eq_true'] at h
    obtain ⟨⟨h1, h2⟩, h3⟩ := h
    have h1 := eq_of_beq h1
    subst h1
    rcases tn_or o.subs y with ⟨c', T, tn⟩ | no
    · refine ⟨_, test_one (names_of (o.gl h2) h3 tn), fun x C b hm hb => ?_⟩
      unfold anySub at hb
      cases q1 : Φ.sub x y with
      | none => rw [q1] at hb; cases hb
      | some b1 =>
        rw [q1] at hb
        unfold anySub at hb
        cases hb
        obtain ⟨C', c', T', k1, k2, k3, k4, k5⟩ := o.subs _ _ _ q1
        rw [hm] at k1
        cases k1
        obtain ⟨rfl, rfl⟩ := tn.inj k2
        simpa using k4
    · exact none_ fun x => any_none (List.mem_singleton.mpr rfl) (no x)
  · rename_i ts es kk p _
    simp only [Bool.and_eq_true, decide_eq_true_eq] at h
    obtain ⟨⟨h1, h2⟩, h3⟩ := h
    rcases chXs_ok o h1 with ⟨cs, Ts, tn⟩ | no
    · refine ⟨fun cls => PySem.W.exmAny X.K cls Ts, ?_, fun x C b hm hb => (any_sub o.subs hm tn hb).2⟩
      cases tn with
      | nil => simp at h2
      | cons g1 d1 t1 r =>
        cases r with
        | nil => simp at h2
        | cons g2 d2 t2 r =>
          cases r with
          | nil => exact test_two (names_of g1 d1 t1) (names_of g2 d2 t2)
          | cons g3 d3 t3 r =>
            cases r with
            | nil => exact test_three (names_of g1 d1 t1) (names_of g2 d2 t2) (names_of g3 d3 t3)
            | cons g4 d4 t4 r =>
              cases r with
              | nil => exact test_four (names_of g1 d1 t1) (names_of g2 d2 t2) (names_of g3 d3 t3) (names_of g4 d4 t4)
              | cons _ _ _ _ => simp at h3
    · exact none_ fun x => (no x).1
  · cases h
theorem snd_h (o : XOk X g E k Φ c) (hb : c.bl = false) : ∀ {hs : Hds} {hds : List ExceptHandler}, chH c hs hds = true → HsOk X g Φ hds hs
  | .nil, hds, h => by
    unfold chH at h
    cases hds with
    | nil => exact .nil
    | cons _ _ => cases h
  | .cons ns sl su r, hds, h => by
    unfold chH at h
    split at h
    · rename_i t nm s ss pos r'
      simp only [Bool.and_eq_true] at h
      obtain ⟨⟨⟨h1, h2⟩, h3⟩, h4⟩ := h
      obtain ⟨test, t1, t2⟩ := test_of o h1
      unfold chSl at h2
      split at h2
      · exact .plain t1 t2 (fun a pn => snd_su o hb h3) (snd_h o hb h4)
      · simp only [Bool.and_eq_true] at h2
        exact .named t1 (o.at_ h2.1) (o.isLoc h2.2) t2 (fun a pn => snd_su o hb h3) (snd_h o hb h4)
      · cases h2
    · cases h
end
mutual
theorem sndS : ∀ (x : St') {X : Cx} {g : Gh} {E : WX} {k : Nat} {Φ : Env'} {c : Cs} {F : List Nat} (o : XOk X g E k Φ c) (hb : c.bl = false) {s : Stmt}, chS c F x s = true → PS X s (rdS g E F (exS Φ x))
  | .expr e, X, g, E, k, Φ, c, F, o, hb, s, h => by
    unfold chS at h
    split at h
    · simp only [Bool.and_eq_true, Bool.not_eq_true'] at h
      unfold exS
      exact s_expr (sndE e o h.1) h.2
    · cases h
  | .asg t e, X, g, E, k, Φ, c, F, o, hb, s, h => by
    unfold chS at h
    split at h
    · rename_i i y p e' pos
      simp only [Bool.and_eq_true, Bool.not_eq_true'] at h
      obtain ⟨⟨⟨h1, h2⟩, h3⟩, h4⟩ := h
      unfold exS
      by_cases z : isComp e' = true
      · cases e with
        | lc own elt tg it tt => exact s_setLc o hb h1 (notin h2) h3 h4
        | _ => simp only [lcOk, z, Bool.not_true] at h4; cases h4
      · obtain ⟨n1, n2, n3⟩ := o.stored h1
        exact s_set o.nd n1 n2 n3 (notin h2) (sndE e o h3) (sw_no (by simpa using z))
    · rename_i is ts kk p e' pos
      simp only [Bool.and_eq_true, Bool.not_eq_true', List.all_eq_true] at h
      obtain ⟨⟨⟨⟨h1, h2⟩, h3⟩, h4⟩, h5⟩ := h
      unfold exS
      exact s_asgT (fun _ z => by cases z) (fun i hi => notin (h2 i hi)) (sndE e o h3) (o.tgt h1) h4 h5 (by rw [asg_ok rfl]; rfl)
    · rename_i is j ts kk p e' pos
      simp only [Bool.and_eq_true, Bool.not_eq_true', List.all_eq_true] at h
      obtain ⟨⟨⟨⟨h1, h2⟩, h3⟩, h4⟩, h5⟩ := h
      unfold exS
      exact s_asgT (fun _ z => by cases z) (fun i hi => notin (h2 i hi)) (sndE e o h3) (o.tgtS h1) h4 h5 (by rw [asg_ok rfl]; rfl)
    · cases h
  | .asg2 i j e, X, g, E, k, Φ, c, F, o, hb, s, h => by
    unfold chS at h
    split at h
    · simp only [Bool.and_eq_true, Bool.not_eq_true'] at h
      obtain ⟨⟨⟨⟨h1, h2⟩, h3⟩, h4⟩, h5⟩ := h
      unfold exS
      exact s_asg2 (notin h3) (notin h4) (sndE e o h5) (o.tgN h1) (o.tgN h2) rfl
    · cases h
  | .par i j a b, X, g, E, k, Φ, c, F, o, hb, s, h => by
    unfold chS at h
    split at h
    · simp only [Bool.and_eq_true, Bool.not_eq_true', decide_eq_true_eq] at h
      obtain ⟨⟨⟨⟨⟨⟨⟨⟨⟨⟨⟨⟨⟨h1, h2⟩, h3⟩, h4⟩, h5⟩, h6⟩, h7⟩, h8⟩, h9⟩, h10⟩, h11⟩, h12⟩, h13⟩, h14⟩ := h
      have n1 := o.at_ h1
      have n2 := o.at_ h2
      unfold exS
      refine s_par o.calm o.nd n1 n2 h7 (o.isLoc h3) (o.isLoc h4) (notin h5) (notin h6) (sndE a o h8) (sndE b o h9) (star_ok h10) (star_ok h11) (par_swap o.kd (o.isLoc h3) (o.isLoc h4) (fun e => h7 ?_) h12 h10 h11 h13 h14)
      exact (List.getElem?_inj (List.getElem?_eq_some_iff.mp n1).1 o.nd).mp (by rw [n1, n2, e])
    · cases h
  | .setI ob i e, X, g, E, k, Φ, c, F, o, hb, s, h => by
    unfold chS at h
    split at h
    · simp only [Bool.and_eq_true, Bool.not_eq_true'] at h
      obtain ⟨⟨⟨⟨h1, h2⟩, h3⟩, h4⟩, h5⟩ := h
      unfold exS
      exact s_setI (by have := o.units; omega) (sndE e o h4) (o.var h1) (sndE i o h2) h5 (set_ok h3) (by rw [asg_ok rfl]; rfl)
    · cases h
  | .setS ob lo hi j, X, g, E, k, Φ, c, F, o, hb, s, h => by
    unfold chS at h
    split at h
    · simp only [Bool.and_eq_true] at h
      obtain ⟨⟨⟨h1, h2⟩, h3⟩, h4⟩ := h
      unfold exS
      exact s_setS (o.var h2) (o.var h1) (sndO lo o h3) (sndO hi o h4) rfl rfl (by rw [asg_ok rfl]; rfl)
    · cases h
  | .aug i op e, X, g, E, k, Φ, c, F, o, hb, s, h => by
    unfold chS at h
    split at h
    · simp only [Bool.and_eq_true, Bool.not_eq_true', decide_eq_true_eq] at h
      obtain ⟨⟨⟨h1, h2⟩, h3⟩, h4⟩ := h
      obtain ⟨n1, n2, n3⟩ := o.stored h1
      subst h3
      unfold exS
      exact s_aug o.K op o.nd n1 n2 n3 (notin h2) (sndE e o h4)
    · cases h
  | .augI ob i op e, X, g, E, k, Φ, c, F, o, hb, s, h => by
    unfold chS at h
    split at h
    · simp only [Bool.and_eq_true, decide_eq_true_eq] at h
      obtain ⟨⟨⟨⟨h1, h2⟩, h3⟩, h4⟩, h5⟩ := h
      subst h4
      unfold exS
      exact s_augI op o.K (o.var h1) (sndE i o h2) (sndE e o h5) h3
    · cases h
  | .ret e, X, g, E, k, Φ, c, F, o, hb, s, h => by
    unfold chS at h
    split at h
    · unfold exS
      exact s_ret (sndE e o h)
    · cases h
  | .retN, X, g, E, k, Φ, c, F, o, hb, s, h => by
    unfold chS at h
    split at h
    · unfold exS
      exact s_retN
    · cases h
  | .ife t a b, X, g, E, k, Φ, c, F, o, hb, s, h => by
    unfold chS at h
    split at h
    · simp only [Bool.and_eq_true] at h
      unfold exS
      exact s_if (sndT t o h.1.1) (sndSs a o hb h.1.2) (sndSs b o hb h.2)
    · cases h
  | .loop tg it b, X, g, E, k, Φ, c, F, o, hb, s, h => by
    unfold chS at h
    split at h
    · simp only [Bool.and_eq_true, Bool.not_eq_true', List.all_eq_true] at h
      obtain ⟨⟨⟨⟨h1, h2⟩, h3⟩, h4⟩, h5⟩ := h
      unfold exS
      exact s_for (o.po hb) o.calm (sndI it o h2) (o.tg h1) (sndSs b o hb h4) (fun i hi => notin (h5 i hi)) fun x => noset_ok h3
    · cases h
  | .whl t b, X, g, E, k, Φ, c, F, o, hb, s, h => by
    unfold chS at h
    split at h
    · simp only [Bool.and_eq_true] at h
      unfold exS
      exact s_whl (o.po hb) (sndT t o h.1) (sndSs b o hb h.2) whlFuel
    · cases h
  | .brk, X, g, E, k, Φ, c, F, o, hb, s, h => by
    unfold chS at h
    split at h
    · unfold exS
      exact s_brk
    · cases h
  | .cnt, X, g, E, k, Φ, c, F, o, hb, s, h => by
    unfold chS at h
    split at h
    · unfold exS
      exact s_cnt
    · cases h
  | .pass, X, g, E, k, Φ, c, F, o, hb, s, h => by
    unfold chS at h
    split at h
    · unfold exS
      exact s_pass
    · cases h
  | .dead, X, g, E, k, Φ, c, F, o, hb, s, h => by
    unfold exS
    exact s_dead
  | .raise x es, X, g, E, k, Φ, c, F, o, hb, s, h => by
    unfold chS at h
    split at h
    · rename_i y _ e1 es' _ _
      simp only [Bool.and_eq_true, Bool.not_eq_true'] at h
      obtain ⟨⟨⟨⟨h1, h2⟩, h3⟩, h4⟩, h5⟩ := h
      have h1 := eq_of_beq h1
      subst h1
      have red : exS Φ (.raise y es) = raiseM Φ y (evEs Φ es) := by
        unfold exS
        rfl
      rw [red]
      have hn := h5
      unfold noStar at hn
      simp only [List.all_cons, Bool.and_eq_true, Bool.not_eq_true'] at hn
      cases q : Φ.ex y with
      | none =>
        refine ⟨fun pins s σ H D I ⟨W, ρ, eH, so, hp⟩ => ?_⟩
        unfold raiseM at hp
        rw [q] at hp
        exact hp.elim
      | some fs =>
        obtain ⟨j, hj, hm⟩ := o.exs y fs q
        exact s_raise o.K o.mg o.calm o.tk (o.room.mono hj) (fun fs' q' => by rw [q] at q'; cases q'; exact hm) (o.gl h2) h3 (sndEs es o h4) (star_ok hn.1) (back_ok hn.2)
    · cases h
  | .tryx b hs, X, g, E, k, Φ, c, F, o, hb, s, h => by
    unfold chS at h
    split at h
    · simp only [Bool.and_eq_true, List.isEmpty_iff] at h
      obtain ⟨⟨h1, h2⟩, h3⟩ := h
      subst h1
      have red : exS Φ (.tryx b hs) = tryM (exSs Φ b) fun e => exH Φ e hs := by
        unfold exS
        rfl
      rw [red]
      obtain ⟨t1, t2, t3⟩ := o.top hb
      exact s_tryx t1 t2 t3 o.nd o.tk o.mg (fun W pn xe tk po => sndSs b (o.tr tk po) hb h2) (snd_h o hb h3)
    · cases h
theorem sndSs : ∀ (x : Sts) {X : Cx} {g : Gh} {E : WX} {k : Nat} {Φ : Env'} {c : Cs} {F : List Nat} (o : XOk X g E k Φ c) (hb : c.bl = false) {s : List Stmt}, chSs c F x s = true → PSs X s (rdS g E F (exSs Φ x))
  | .nil, X, g, E, k, Φ, c, F, o, hb, s, h => by
    unfold chSs at h
    cases s with
    | nil => unfold exSs; exact s_snil
    | cons _ _ => cases h
  | .cons s ss, X, g, E, k, Φ, c, F, o, hb, l, h => by
    unfold chSs at h
    cases l with
    | nil => cases h
    | cons s' r' =>
      simp only [Bool.and_eq_true] at h
      unfold exSs
      exact s_scons (sndS s o hb h.1) (sndSs ss o hb h.2)
end
end PV
set_option Elab.async false
set_option linter.all false
set_option autoImplicit false
set_option maxRecDepth 100000
set_option maxHeartbeats 4000000
/-! PV: the bodies of defs. -/
namespace PV
open PySem PySem.Spec PyProof.Rows L2
/-- how the parameters behind the given ones are filled -/
def BindP (K : Frg) (fd : FuncData) (ps : List Str) (B : Nat → List (Str × PyData) → Option (List PyData)) : Prop :=
  ∀ (s : Shared) (us : List Value) (vs : List V) (ws : List Value) (zs : List V) (ks : List Str) (ds : List PyData) (G : Hp) (ext : List PyData), K.In s.heap → Vals vs us → Vals zs ws → ks.length = zs.length → RpAll K G zs ds → B us.length (ks.zip ds) = some ext →
    ∃ ues ves, BindsTo s fd ⟨us, ks.zip ws⟩ (ps.zip (us ++ ues)) ∧ Vals ves ues ∧ RpAll K G ves ext ∧ us.length + ues.length = ps.length
def bPlain (n : Nat) : Nat → List (Str × PyData) → Option (List PyData) := fun k kw => if k = n && kw.isEmpty then some [] else none
/-- a def's meaning -/
def semF (Φ : Env') (n : Nat) (B : Nat → List (Str × PyData) → Option (List PyData)) (b : Sts) : FSem := fun as kw => match B as.length kw with
  | none => .stuck
  | some ext => match runB Φ n b (as ++ ext.map .val) with
    | .ok r as' => .ok r (as'.take as.length)
    | .exc e as' => .exc e (as'.take as.length)
    | .stuck => .stuck
theorem bind_plain {K : Frg} {fd : FuncData} {ps : List Str} (h : ∀ us : List Value, us.length = ps.length → bindArgs fd ⟨us, []⟩ = pure (ps.zip us)) : BindP K fd ps (bPlain ps.length) := by
  intro s us vs ws zs ks ds G ext _ _ _ hl rp hB
  unfold bPlain at hB
  split at hB
  · rename_i hc
    cases hB
    simp only [Bool.and_eq_true, decide_eq_true_eq, List.isEmpty_iff] at hc
    have ek : ks = [] := by
      have z := hc.2
      have l : (ks.zip ds).length = 0 := by rw [z]; rfl
      rw [List.length_zip, ← rp.length, hl, Nat.min_self] at l
      exact List.length_eq_zero_iff.mp (by omega)
    subst ek
    refine ⟨[], [], ?_, .nil, .nil, by simpa using hc.1⟩
    rw [List.append_nil]
    exact .of_eq (h us hc.1)
  · cases hB
section
variable {g : Gh} {W W' : Wd} {vs ves : List V} {as : List Slot} {ext : List PyData}
theorem so_ext (so : SO g W (vs.map some) as) (rp : RpAll g.K W.G ves ext) : SO g W ((vs ++ ves).map some) (as ++ ext.map .val) := by
  have al : as.length = vs.length := by rw [so.len, List.length_map]
  have cases_ : ∀ {j : Nat} {s : Slot}, (as ++ ext.map Slot.val)[j]? = some s → (j < as.length ∧ as[j]? = some s ∧ ((vs ++ ves).map some)[j]? = (vs.map some)[j]?) ∨ (∃ d v, s = .val d ∧ ((vs ++ ves).map some)[j]? = some (some v) ∧ Rp g.K W.G v d) := fun {j s} h => by
    by_cases hj : j < as.length
    · rw [List.getElem?_append_left hj] at h
      refine .inl ⟨hj, h, ?_⟩
      rw [List.map_append, List.getElem?_append_left (by rw [List.length_map, ← al]; exact hj)]
    · rw [List.getElem?_append_right (by omega), List.getElem?_map] at h
      cases q : ext[j - as.length]? with
      | none => rw [q] at h; cases h
      | some d =>
        rw [q] at h
        cases h
        obtain ⟨v, h1, h2⟩ := rp.get' q
        refine .inr ⟨d, v, rfl, ?_, h2⟩
        rw [List.map_append, List.getElem?_append_right (by rw [List.length_map]; omega), List.length_map, ← al, List.getElem?_map, h1]
        rfl
  refine ⟨so.gh, so.og, so.bt, by simp [al, rp.length], fun j s h => ?_, fun i j a b m m' p h1 h2 h3 h4 => ?_⟩
  · rcases cases_ h with ⟨_, k1, k2⟩ | ⟨d, v, e, k1, k2⟩
    · rw [k2]; exact so.slots j s k1
    · subst e; exact ⟨v, k1, k2⟩
  · rcases cases_ h1 with ⟨_, k1, k2⟩ | ⟨d, v, e, _⟩
    · rcases cases_ h2 with ⟨_, l1, l2⟩ | ⟨d, v, e, _⟩
      · exact so.inj i j a b m m' p k1 l1 (k2 ▸ h3) (l2 ▸ h4)
      · cases e
    · cases e
theorem so_take (so : SO g W ((vs ++ ves).map some) as) : SO g W (vs.map some) (as.take vs.length) := by
  have c : ∀ {j : Nat} {s : Slot}, (as.take vs.length)[j]? = some s → as[j]? = some s ∧ ((vs ++ ves).map some)[j]? = (vs.map some)[j]? := fun {j s} h => by
    rw [List.getElem?_take] at h
    split at h
    · rename_i hj
      exact ⟨h, by rw [List.map_append, List.getElem?_append_left (by rw [List.length_map]; exact hj)]⟩
    · cases h
  refine ⟨so.gh, so.og, so.bt, by rw [List.length_take, so.len]; simp, fun j s h => ?_, fun i j a b m m' p h1 h2 h3 h4 => ?_⟩
  · obtain ⟨k1, k2⟩ := c h
    rw [← k2]
    exact so.slots j s k1
  · obtain ⟨k1, k2⟩ := c h1
    obtain ⟨l1, l2⟩ := c h2
    exact so.inj i j a b m m' p k1 l1 (k2 ▸ h3) (l2 ▸ h4)
theorem so_start {N : List Str} (so : SO g W (vs.map some) as) : SO g W (L2.start N vs) (as ++ List.replicate (N.length - as.length) .non) := by
  have al : as.length = vs.length := by rw [so.len, List.length_map]
  have c : ∀ {j : Nat} {s : Slot}, (as ++ List.replicate (N.length - as.length) Slot.non)[j]? = some s → s = .non ∨ (as[j]? = some s ∧ (L2.start N vs)[j]? = (vs.map some)[j]?) := fun {j s} h => by
    by_cases hj : j < as.length
    · rw [List.getElem?_append_left hj] at h
      exact .inr ⟨h, by unfold L2.start; rw [List.getElem?_append_left (by rw [List.length_map, ← al]; exact hj)]⟩
    · rw [List.getElem?_append_right (by omega), List.getElem?_replicate] at h
      split at h
      · cases h; exact .inl rfl
      · cases h
  refine ⟨so.gh, so.og, so.bt, by unfold L2.start; simp [al], fun j s h => ?_, fun i j a b m m' p h1 h2 h3 h4 => ?_⟩
  · rcases c h with e | ⟨k1, k2⟩
    · subst e; trivial
    · rw [k2]; exact so.slots j s k1
  · rcases c h1 with e | ⟨k1, k2⟩
    · cases e
    · rcases c h2 with e | ⟨l1, l2⟩
      · cases e
      · exact so.inj i j a b m m' p k1 l1 (k2 ▸ h3) (l2 ▸ h4)
theorem outArgs_at {ρ : List Slot} : ∀ {as as' : List Slot} {k : Nat}, outArgs k as ρ = some as' → as'.length = as.length ∧ ∀ (j : Nat) (s : Slot), as'[j]? = some s →
    (as[j]? = some s ∧ ∀ q m, s ≠ .own q m) ∨ ∃ q m m', as[j]? = some (.own (some q) m) ∧ ρ[k + j]? = some (.own (some q) m') ∧ s = .own (some q) m'
  | [], as', k, h => by
    cases h
    exact ⟨rfl, fun j s e => by simp at e⟩
  | s0 :: as, as', k, h => by
    unfold outArgs at h
    have step : ∀ {ss : List Slot} {s1 : Slot}, outArgs (k + 1) as ρ = some ss → as' = s1 :: ss → ((s0 = s1 ∧ ∀ q m, s1 ≠ .own q m) ∨ ∃ q m m', s0 = .own (some q) m ∧ ρ[k]? = some (.own (some q) m') ∧ s1 = .own (some q) m') →
        as'.length = (s0 :: as).length ∧ ∀ (j : Nat) (s : Slot), as'[j]? = some s → ((s0 :: as)[j]? = some s ∧ ∀ q m, s ≠ .own q m) ∨ ∃ q m m', (s0 :: as)[j]? = some (.own (some q) m) ∧ ρ[k + j]? = some (.own (some q) m') ∧ s = .own (some q) m' := fun {ss s1} h1 h2 h3 => by
      subst h2
      obtain ⟨l, ih⟩ := outArgs_at h1
      refine ⟨by simp [l], fun j s e => ?_⟩
      cases j with
      | zero =>
        have e : s1 = s := by simpa using e
        subst e
        rcases h3 with ⟨h3, h4⟩ | ⟨q, m, m', h3, h4, h5⟩
        · exact .inl ⟨by rw [h3]; rfl, h4⟩
        · exact .inr ⟨q, m, m', by rw [h3]; rfl, h4, h5⟩
      | succ j =>
        rcases ih j s (by simpa using e) with ⟨k1, k2⟩ | ⟨q, m, m', k1, k2, k3⟩
        · exact .inl ⟨by simpa using k1, k2⟩
        · exact .inr ⟨q, m, m', by simpa using k1, by rw [Nat.add_assoc, Nat.add_comm 1 j] at k2; exact k2, k3⟩
    split at h
    · rename_i q m q' m' ss hq hs
      split at h
      · rename_i e
        subst e
        cases h
        exact step hs rfl (.inr ⟨q, m, m', rfl, hq, rfl⟩)
      · cases h
    · cases h
    · rename_i hs2 hs1 _
      cases h
      exact step hs1 rfl (.inl ⟨rfl, fun q m e => hs2 q m e⟩)
    · cases h
theorem out_so {σ : L2.St} {ρ as' : List Slot} (s0 : SO g W (vs.map some) as) (e : Ext W W') (so : SO g W' σ ρ) (h : outArgs 0 as ρ = some as') : SO g W' (vs.map some) as' := by
  obtain ⟨l, at_⟩ := outArgs_at h
  refine ⟨so.gh, so.og, so.bt, by rw [l]; exact s0.len, fun j s hj => ?_, fun i j a b m m' p h1 h2 h3 h4 => ?_⟩
  · rcases at_ j s hj with ⟨k1, k2⟩ | ⟨q, m, m', k1, k2, k3⟩
    · have sl := s0.slots j s k1
      cases s with
      | non => trivial
      | own q m => exact absurd rfl (k2 q m)
      | val d => obtain ⟨v, l1, l2⟩ := sl; exact ⟨v, l1, Rp.mono e.fz l2⟩
      | st t => obtain ⟨v, l1, l2⟩ := sl; exact ⟨v, l1, StOk.mono e.fz l2⟩
    · subst k3
      obtain ⟨p, l1, _, _, l4⟩ := s0.slots j _ k1
      obtain ⟨p', n1, n2, n3, n4⟩ := so.slots _ _ k2
      have l4 : g.pa q = p := l4
      have n4 : g.pa q = p' := n4
      have ep : p' = p := n4.symm.trans l4
      subst ep
      exact ⟨p', l1, n2, n3, l4⟩
  · have o : ∀ {t : Nat} {x : Option Nat} {m1 : Mv}, as'[t]? = some (.own x m1) → ∃ y m2, as[t]? = some (.own y m2) := fun {t x m1} ht => by
      rcases at_ t _ ht with ⟨k1, k2⟩ | ⟨q, m, m', k1, k2, k3⟩
      · exact absurd rfl (k2 x m1)
      · exact ⟨_, _, k1⟩
    obtain ⟨y1, n1, o1⟩ := o h1
    obtain ⟨y2, n2, o2⟩ := o h2
    exact s0.inj i j y1 y2 n1 n2 p o1 o2 h3 h4
end
/-- THE RULE for a def -/
theorem v_body {P : Program} {w : World} {K : Frg} {mg : Str → Option Value} {base : Heap} {k : Nat} {f : Addr} {name qual : Str} {params : Arguments} {body : List Stmt} {scope : Scope} {dV kV doc pm cdv ct oc : Value} {an od : Option Addr} {osl : Array (Option Value)} {N ps nb : List Str} {Φ : Env'} {B : Nat → List (Str × PyData) → Option (List PyData)} {b : Sts}
    (lk : K.lookup f = some ⟨oc, od, .func (PySem.W.fnOf name qual params body scope dV kV doc pm an cdv ct), osl⟩) (hcd : PySem.W.codeIn K cdv qual = true) (S : FnScope N ps scope) (hB : BindP K (PySem.W.fnOf name qual params body scope dV kV doc pm an cdv ct) ps B)
    (fns : ∀ x S, Φ.fn x = some S → ∃ f, mg x = some (.ref f) ∧ PySem.W.keepIn K (.ref f) = true ∧ VFn P w K mg base k f S) (gcs : ∀ x d, Φ.gc x = some d → ∃ u v, mg x = some u ∧ RelV v u ∧ ∀ G, Rp K G v d) (nbs : ∀ x, x ∈ nb → mg x = none) (exs : ∀ x fs, Φ.ex x = some fs → ∃ j, j + 1 ≤ k ∧ MkE P w K mg base j x fs) (subs : ∀ x t b, Φ.sub x t = some b → TbOk K mg x t b) (tbs : ∀ x kvs, Φ.tb x = some kvs → ∃ a, mg x = some (.ref a) ∧ DctK P w K a kvs)
    (ch : chSs ⟨N, scope, nb, false, scope⟩ [] b body = true) : VFn P w K mg base (k + 1) f (semF Φ N.length B b) := by
  intro A outer s W us ws vs zs as ks ds pa Q E hr hgd e0 r rz hl so rp po
  have ul : us.length = as.length := by rw [so.len, List.length_map, ← r.length]
  unfold semF at po
  rw [← ul] at po
  cases hb : B us.length (ks.zip ds) with
  | none => rw [hb] at po; exact po.elim
  | some ext =>
  rw [hb] at po
  simp only at po
  have KX : K.In s.heap := e0.mod.kin.keeps fun b o e => (e0.bs b o e).1
  obtain ⟨ues, ves, bt, rv, rx, hlen⟩ := hB s us vs ws zs ks ds W.G ext KX r rz hl rp hb
  have vl : (vs ++ ves).length = ps.length := by rw [List.length_append, r.length, rv.length]; exact hlen
  have so2 := so_ext (g := ⟨K, mg, pa, W.H⟩) so rx
  refine StX.run_bnd (CX := L2.CX P w) (N := N) (ps := ps) (G := fun vs' H2 => vs' = vs ++ ves ∧ H2 = W.H) lk hcd S hr e0 (fun A' Ex Q' h => bt _ _ _ _ ?_) fun s2 H2 vs' ⟨ev, eH⟩ hr' => ?_
  · exact h s W.H (vs ++ ves) (us ++ ues) e0 Un.refl rfl (fun _ _ x => x) (r.append rv) vl ⟨rfl, rfl⟩
  · subst ev eH
    have o : XOk (cxOf (L2.CX P w) P w K mg base N qual scope f cdv A outer s2 W.H E) ⟨K, mg, pa, W.H⟩ (fun cls d _ H => E cls d H) k Φ ⟨N, scope, nb, false, scope⟩ :=
      ⟨rfl, rfl, rfl, S.nd, rfl, S.kind, rfl, fun _ _ => rfl, fun h => (nomatch h), fun _ => L2.passes_of rfl, L2.takes_of rfl rfl rfl rfl, hr', hgd, fns, gcs, nbs, exs, subs, tbs, fun _ => ⟨rfl, rfl, rfl⟩⟩
    refine ⟨_, sndSs b o rfl ch, ?_⟩
    have so3 := so_start (N := N) so2
    refine ⟨W, _, rfl, so3, ?_⟩
    unfold runB at po
    have tk : ∀ {W' : Wd} {σ' : L2.St} {ρ : List Slot} {as' : List Slot}, Ext W W' → SO ⟨K, mg, pa, W.H⟩ W' σ' ρ → outArgs 0 (as ++ ext.map .val) ρ = some as' → SO ⟨K, mg, pa, W.H⟩ W' (vs.map some) (as'.take us.length) := fun {W' σ' ρ as'} a s' ho => by
      have z := so_take (out_so so2 a s' ho)
      rw [← r.length]
      exact z
    cases q : exSs Φ b ((as ++ ext.map .val) ++ List.replicate (N.length - (as ++ ext.map Slot.val).length) .non) with
    | stuck => rw [q] at po; exact po.elim
    | exc e ρ =>
      rw [q] at po
      intro cls od σ' W' a s' x
      cases ho : outArgs 0 (as ++ ext.map .val) ρ with
      | none => simp only [ho] at po; exact po.elim
      | some as' =>
        simp only [ho] at po
        exact po cls od W' a (tk a s' ho) x
    | ok fl ρ =>
      rw [q] at po
      intro W' σ' a s' _
      cases fl with
      | brk => exact po.elim
      | cnt => exact po.elim
      | nx =>
        simp only [endR] at po
        cases ho : outArgs 0 (as ++ ext.map .val) ρ with
        | none => simp only [ho] at po; exact po.elim
        | some as' =>
          simp only [ho] at po
          exact po W' .non a (tk a s' ho) .non
      | ret r =>
        simp only [endR] at po
        intro v rt
        cases ho : outArgs 0 (as ++ ext.map .val) ρ with
        | none => simp only [ho] at po; exact po.elim
        | some as' =>
          simp only [ho] at po
          cases r with
          | bor i => exact rt.elim
          | val d => exact po W' v a (tk a s' ho) rt
          | fr m => exact po W' v a (tk a s' ho) rt
          | st t => exact po W' v a (tk a s' ho) rt
end PV
set_option Elab.async false
set_option linter.all false
set_option autoImplicit false
set_option maxRecDepth 100000
set_option maxHeartbeats 4000000
/-! PV: the end: the law's call. -/
namespace PV
open PySem PySem.Spec PyProof.Rows L2
theorem ints_rp {K : Frg} {H : Hp} : ∀ ns : List Int, RpAll K H (ns.map V.int) (ns.map PyData.int)
  | [] => .nil
  | n :: ns => .cons (.int n) (ints_rp ns)
/-- the script as it lies at the call: hidden, if it is none of the module's own objects -/
def scriptH (K : Frg) (a : Addr) (vs : List Value) (ns : List Int) : Hp := fun b => if b = a ∧ (K.lookup a).isNone = true then some (.frz { cls := .type "list", data := .seq vs.toArray } (.lst (ns.map V.int))) else none
theorem scriptH_at {K : Frg} {a b : Addr} {vs : List Value} {ns : List Int} (h : scriptH K a vs ns b ≠ none) : b = a ∧ K.lookup a = none := by
  unfold scriptH at h
  split at h
  · rename_i c
    exact ⟨c.1, by simpa using c.2⟩
  · exact absurd rfl h
theorem scriptH_some {K : Frg} {a b : Addr} {vs : List Value} {ns : List Int} {u : HO} (h : scriptH K a vs ns b = some u) : b = a ∧ u = .frz { cls := .type "list", data := .seq vs.toArray } (.lst (ns.map V.int)) := by
  unfold scriptH at h
  split at h
  · rename_i c
    exact ⟨c.1, (Option.some.inj h).symm⟩
  · cases h
theorem end_call {P : Program} {w : World} {K : Frg} {mg mb : Str → Option Value} {k : Nat} {fa a : Addr} {S : FSem} {s₁ : Shared} {vs : List Value} {ns : List Int}
    (KX : K.In s₁.heap) (hns : s₁.heap.Ns mainGlobals mg) (hb : s₁.heap.Ns builtinsNs mb) (hbb : ∀ x : Str, x ≠ "__name__" → mb x = bootBuiltins x) (hlim : s₁.heap.NoLimit) (hg : s₁.gens = #[])
    (ha : s₁.heap.get? a = some { cls := .type "list", data := .seq vs.toArray }) (hi : IntsAre vs ns) (hl : ns.length ≤ sizeLine) (hr : Room k callerA)
    (F : ∀ base : Heap, K.In base → base.Ns mainGlobals mg → VFn P w K mg base k fa S) (law : ∃ ρ, S [.val (.list (ns.map PyData.int))] [] = .ok (.val (.bool true)) ρ) :
    codeAny (model P w) callerA (.call (.ref fa) ⟨[.ref a], []⟩) (fun r s' => r = .ok (.ret (.bool true)) ∧ OldK s₁.heap s'.heap ∧ s'.os = s₁.os ∧ AllBare s'.gens) s₁ := by
  have vals := L2.vals_ints hi
  generalize eH : scriptH K a vs ns = H
  have only : ∀ b, H b ≠ none → b = a ∧ K.lookup a = none := fun b h => scriptH_at (by rw [eH]; exact h)
  have shape : ∀ {b : Addr} {u : HO}, H b = some u → b = a ∧ u = .frz { cls := .type "list", data := .seq vs.toArray } (.lst (ns.map V.int)) := fun h => scriptH_some (by rw [eH]; exact h)
  -- the base: the heap without the script
  have see : ∀ {b : Addr} {o : Obj}, s₁.heap.get? b = some o → b ≠ a → (hidT s₁.heap H).get? b = some o := fun {b o} e ne => hidT_get e (by
    cases z : H b with
    | none => rfl
    | some u => exact absurd (only b (by rw [z]; simp)).1 ne)
  have inK : K.In (hidT s₁.heap H) := fun b o e => hidT_get (KX b o e) (by
    cases z : H b with
    | none => rfl
    | some u =>
      obtain ⟨e1, e2⟩ := only b (by rw [z]; simp)
      rw [e1, e2] at e
      cases e)
  have space : ∀ {b : Addr} {m : Str → Option Value}, s₁.heap.Ns b m → (hidT s₁.heap H).Ns b m := fun {b m} h => by
    obtain ⟨ob, entries, epoch, e, ed, rest⟩ := h
    refine ⟨ob, entries, epoch, see e fun z => ?_, ed, rest⟩
    subst z
    rw [ha] at e
    cases e
    cases ed
  have top : Env0 P w K mg (hidT s₁.heap H) callerA [] s₁ H := by
    refine ⟨rfl, ⟨inK, space hns, ⟨mb, space hb, hbb⟩, ?_⟩, fun b o e => of_hidT e, Nat.le_of_eq (hidT_size _ _), trivial, fun b z => absurd z (by simp [frs]), fun b u z => ?_, .of_eq hg⟩
    · obtain ⟨m, l1, l2⟩ := hlim
      exact ⟨m, space l1, l2⟩
    · obtain ⟨e1, e2⟩ := shape z
      subst e1 e2
      exact ⟨ha, by rw [List.length_map]; exact hl, vs, _, vals, ha⟩
  have lies : Lq K H a (ns.map V.int) := by
    cases z : K.lookup a with
    | none =>
      refine .inl (.inr ⟨{ cls := .type "list", data := .seq vs.toArray }, ?_⟩)
      rw [← eH]
      unfold scriptH
      rw [if_pos ⟨rfl, by rw [z]; rfl⟩]
    | some o =>
      have e := KX a o z
      rw [ha] at e
      cases e
      exact .inr ⟨vs, _, z, by rw [hi.length]; exact hl, vals⟩
  obtain ⟨ρ, lw⟩ := law
  have start : SO ⟨K, mg, fun _ => 0, H⟩ ⟨H, H, fun _ => False⟩ [some (.ref a)] [.val (.list (ns.map PyData.int))] := by
    refine ⟨Same.refl _, fun _ z => z.elim, fun _ z => z, rfl, fun i s e => ?_, fun i j x y m m' p e => ?_⟩
    · cases i with
      | zero =>
        cases e
        exact ⟨_, rfl, .lst lies (ints_rp ns)⟩
      | succ i => simp at e
    · cases i with
      | zero => cases e
      | succ i => simp at e
  refine codeAny_mono (F _ inK (space hns) callerA [] s₁ ⟨H, H, fun _ => False⟩ [.ref a] [] [.ref a] [] [.val (.list (ns.map PyData.int))] [] [] (fun _ => 0) (fun v _ => v = .bl true) (fun _ _ _ => False) hr rfl top (.cons rfl .nil) .nil rfl start .nil ?_) fun r s' h => ?_
  · rw [show ([] : List Str).zip ([] : List PyData) = [] from rfl, lw]
    intro W' v _ _ rt
    exact Rp.of_bool rt
  · cases r with
    | error e =>
      obtain ⟨_, _, _, _, _, _, _, _, _, _, _, _, z⟩ := h
      exact z.elim
    | ok fl =>
      cases fl with
      | next => exact h.elim
      | brk => exact h.elim
      | cont => exact h.elim
      | ret u =>
        obtain ⟨v, H', os, bare, un, hok, rel, q⟩ := h
        cases (show v = .bl true from q)
        obtain rfl : u = Value.bool true := rel
        refine ⟨rfl, OldK.of_keep fun b o e => ?_, os, bare⟩
        cases z : H b with
        | none => exact un.keep b o e z (fun y => absurd y (by simp [frs])) (by simp)
        | some u =>
          obtain ⟨e1, e2⟩ := shape z
          subst e1 e2
          rw [ha] at e
          cases e
          exact (hok b _ (un.frzs b _ _ z)).1
/-- THE END of a law: F the promise of the law's def, over every base -/
theorem end_walk {l : PySem.W.OpenLaw} {n k : Nat} {q : Program} {loose : List Str} {XP : (Str → Option Value) → Heap → Prop} {YP : World → Heap → Prop} {d : DefRec} {K : Params → Frg} {S : World → FSem}
    (hn : l.most = some n) (hn2 : n ≤ sizeLine) (hdf : d.params.defaults = []) (hr : Room k callerA) (hY : ∀ (w : World) (h : Heap), YP w h → (K w.params).In h)
    (F : ∀ (w : World) (mg : Str → Option Value) (fa : Addr) (h : Heap), (K w.params).In h → h.Ns mainGlobals mg → mg d.name = some (.ref fa) → ∀ base : Heap, (K w.params).In base → base.Ns mainGlobals mg → VFn l.prog w (K w.params) mg base k fa (S w))
    (law : ∀ (w : World) (ns : List Int), ns.length ≤ n → ∃ ρ, S w [.val (.list (ns.map PyData.int))] [] = .ok (.val (.bool true)) ρ) :
    PySem.W.WalkO q loose XP YP l.row.toRowW d [] (fun f vs => PySem.call f vs) :=
  Att.attach_call hn hdf fun w s₀ s₁ mg mb fa o pm cd doc a vs ns G Y ho hd hcd hmg hobj hints hlen hg =>
    end_call (hY w _ Y) G.T.g G.T.b G.T.builtins G.T.nolimit hg hobj hints (Nat.le_trans hlen hn2) hr (F w mg fa _ (hY w _ Y) G.T.g hmg) (law w ns hlen)
end PV
set_option Elab.async false
set_option linter.all false
set_option autoImplicit false
set_option maxRecDepth 100000
set_option maxHeartbeats 4000000
/-! PV: the table of a text's defs. -/
namespace PV
open PySem PySem.Spec PyProof.Rows L2
def Env'.add (Φ : Env') (x : Str) (S : FSem) : Env' := ⟨fun y => if y == x then some S else Φ.fn y, Φ.gc, Φ.ex, Φ.sub, Φ.tb⟩
def Env'.glob (Φ : Env') (x : Str) (d : D) : Env' := ⟨Φ.fn, fun y => if y == x then some d else Φ.gc y, Φ.ex, Φ.sub, Φ.tb⟩
def Env'.nil : Env' := ⟨fun _ => none, fun _ => none, fun _ => none, fun _ _ => none, fun _ => none⟩
/-- the shapes of the calls of a def: how many by place, which by name -/
def bShape (sh : List (Nat × List Str)) : Nat → List (Str × D) → Option (List D) := fun n kw => if sh.any (fun s => s.1 == n && s.2 == kw.map (·.1)) then some (kw.map (·.2)) else none
theorem bind_shape {K : Frg} {fd : FuncData} {ps : List Str} {sh : List (Nat × List Str)} (h : ∀ s ∈ sh, s.1 + s.2.length = ps.length ∧ ∀ us ws : List Value, us.length = s.1 → ws.length = s.2.length → bindArgs fd ⟨us, s.2.zip ws⟩ = pure (ps.zip (us ++ ws))) : BindP K fd ps (bShape sh) := by
  intro s us vs ws zs ks ds G ext _ _ rz hl rp hB
  unfold bShape at hB
  split at hB
  · rename_i hc
    cases hB
    obtain ⟨p, hp, hq⟩ := List.any_eq_true.mp hc
    simp only [Bool.and_eq_true, beq_iff_eq] at hq
    obtain ⟨q1, q2⟩ := hq
    have lz : ks.length = ds.length := by rw [hl, rp.length]
    have ek : (ks.zip ds).map (·.1) = ks := by
      rw [List.map_fst_zip (by omega)]
    have ed : (ks.zip ds).map (·.2) = ds := by
      rw [List.map_snd_zip (by omega)]
    rw [ek] at q2
    rw [ed]
    obtain ⟨h1, h2⟩ := h p hp
    have lw : ws.length = ks.length := by rw [← rz.length, hl]
    refine ⟨ws, zs, ?_, rz, rp, by rw [← q1, lw, ← q2]; exact h1⟩
    have e := h2 us ws q1.symm (by rw [q2]; exact lw)
    rw [q2] at e
    exact .of_eq e
  · cases hB
structure EnvOk (P : Program) (w : World) (K : Frg) (mg : Str → Option Value) (base : Heap) (k : Nat) (Φ : Env') : Prop where
  fn : ∀ x S, Φ.fn x = some S → ∃ f, mg x = some (.ref f) ∧ PySem.W.keepIn K (.ref f) = true ∧ VFn P w K mg base k f S
  gc : ∀ x d, Φ.gc x = some d → ∃ u v, mg x = some u ∧ RelV v u ∧ ∀ G, Rp K G v d
  ex : ∀ x fs, Φ.ex x = some fs → ∃ j, j + 1 ≤ k ∧ MkE P w K mg base j x fs
  sub : ∀ x t b, Φ.sub x t = some b → TbOk K mg x t b
  tb : ∀ x kvs, Φ.tb x = some kvs → ∃ a, mg x = some (.ref a) ∧ DctK P w K a kvs
section
variable {P : Program} {w : World} {K : Frg} {mg : Str → Option Value} {base : Heap} {k : Nat} {Φ : Env'} {x : Str} {S : FSem} {f : Addr} {d : D}
theorem EnvOk.nil : EnvOk P w K mg base k Env'.nil := ⟨fun _ _ h => (nomatch h), fun _ _ h => (nomatch h), fun _ _ h => (nomatch h), fun _ _ _ h => (nomatch h), fun _ _ h => (nomatch h)⟩
theorem EnvOk.add (o : EnvOk P w K mg base k Φ) (h1 : mg x = some (.ref f)) (h2 : PySem.W.keepIn K (.ref f) = true) (h3 : VFn P w K mg base (k + 1) f S) : EnvOk P w K mg base (k + 1) (Φ.add x S) := by
  refine ⟨fun y T h => ?_, o.gc, fun x fs h => (o.ex x fs h).imp fun j z => ⟨Nat.le_succ_of_le z.1, z.2⟩, o.sub, o.tb⟩
  unfold Env'.add at h
  simp only at h
  split at h
  · rename_i e
    cases h
    rw [eq_of_beq e]
    exact ⟨f, h1, h2, h3⟩
  · obtain ⟨f', k1, k2, k3⟩ := o.fn y T h
    exact ⟨f', k1, k2, k3.mono (Nat.le_succ k)⟩
theorem EnvOk.glob (o : EnvOk P w K mg base k Φ) {u : Value} {v : V} (h1 : mg x = some u) (h2 : RelV v u) (h3 : ∀ G, Rp K G v d) : EnvOk P w K mg base k (Φ.glob x d) := by
  refine ⟨o.fn, fun y e h => ?_, o.ex, o.sub, o.tb⟩
  unfold Env'.glob at h
  simp only at h
  split at h
  · rename_i q
    cases h
    rw [eq_of_beq q]
    exact ⟨u, v, h1, h2, h3⟩
  · exact o.gc y e h
def Env'.dict (Φ : Env') (x : Str) (kvs : List (Str × D)) : Env' := ⟨Φ.fn, Φ.gc, Φ.ex, Φ.sub, fun y => if y == x then some kvs else Φ.tb y⟩
theorem EnvOk.dict {a : Addr} {kvs : List (Str × D)} (o : EnvOk P w K mg base k Φ) (h1 : mg x = some (.ref a)) (h2 : DctK P w K a kvs) : EnvOk P w K mg base k (Φ.dict x kvs) := by
  refine ⟨o.fn, o.gc, o.ex, o.sub, fun y l h => ?_⟩
  unfold Env'.dict at h
  simp only at h
  split at h
  · rename_i q
    cases h
    rw [eq_of_beq q]
    exact ⟨a, h1, h2⟩
  · exact o.tb y l h
/-- the facts of such a dict -/
theorem dctK_mk {es : Array DictEntry} {n : Nat} {a : Addr} {kvs : List (Str × D)} {us : List (Str × Value)} (l : K.lookup a = some { cls := .type "dict", data := .dict es n }) (he : KeysOf (strKind P w) es) (hp : Pairs (strKind P w) es.toList us) (hn : (us.map (·.1)).Nodup)
    (hv : ∀ k d, kvs.lookup k = some d → ∃ u v, valueAt us k = some u ∧ RelV v u ∧ ∀ G, Rp K G v d) : DctK P w K a kvs :=
  ⟨us, fun h X => ⟨_, es, n, X _ _ l, ⟨rfl, rfl, rfl⟩, rfl, he, hp, hn⟩, hv⟩
/-- a plain def joins the table -/
theorem EnvOk.def_ {st : Stmt} {fd : FuncData} {N ps nb : List Str} {sh : List (Nat × List Str)} {b : Sts} (o : EnvOk P w K mg base k Φ) (F : Fun K x x st f fd) (h1 : mg x = some (.ref f)) (S : FnScope N ps (defScope st))
    (hb : ∀ s ∈ sh, s.1 + s.2.length = ps.length ∧ ∀ (kV doc pm : Value) (an : Option Addr) (cdv ct : Value) (us ws : List Value), us.length = s.1 → ws.length = s.2.length → bindArgs (PySem.W.fnOf x x (defArgs st) (defBody st) (defScope st) .none kV doc pm an cdv ct) ⟨us, s.2.zip ws⟩ = pure (ps.zip (us ++ ws)))
    (nbs : ∀ y, y ∈ nb → mg y = none) (ch : chSs ⟨N, defScope st, nb, false, defScope st⟩ [] b (defBody st) = true) : VFn P w K mg base (k + 1) f (semF Φ N.length (bShape sh) b) := by
  obtain ⟨oc, od, kV, doc, pm, an, cdv, ct, osl, rfl, lk, hcd⟩ := F.ex
  exact v_body lk hcd S (bind_shape fun s hs => ⟨(hb s hs).1, (hb s hs).2 kV doc pm an cdv ct⟩) o.fn o.gc nbs o.ex o.sub o.tb ch
end
/-- a look at a def's scope -/
def scB (N P : List Str) (sc : Scope) : Bool :=
  decide (sc.kind = .function) && !sc.isCoroutine && !sc.isGenerator && decide N.Nodup && decide (N.take P.length = P) && (P.all fun x => isLC sc x) && (sc.names.all fun y => !decide (y.2 = .free))
theorem scB_ok {N P : List Str} {sc : Scope} (h : scB N P sc = true) : FnScope N P sc := by
  unfold scB at h
  simp only [Bool.and_eq_true, Bool.not_eq_true', decide_eq_true_eq, List.all_eq_true, decide_eq_false_iff_not] at h
  obtain ⟨⟨⟨⟨⟨⟨h1, h2⟩, h3⟩, h4⟩, h5⟩, h6⟩, h7⟩ := h
  refine ⟨h1, h2, h3, h4, h5, fun x hx => ?_, h7⟩
  have z := h6 x hx
  unfold isLC at z
  split at z
  · exact .inl (by assumption)
  · exact .inr (by assumption)
  · cases z
end PV
set_option Elab.async false
set_option linter.all false
set_option autoImplicit false
set_option maxRecDepth 100000
set_option maxHeartbeats 4000000
/-! PV: defaults and parameters by name alone. -/
namespace PV
open PySem PySem.Spec PyProof.Rows L2
/-- a default's value -/
def DfV (K : Frg) (u : Value) (d : D) : Prop := ∃ v, RelV v u ∧ ∀ G, Rp K G v d
def DfP (K : Frg) (dV : Value) (dps : List D) : Prop := (dps = [] ∧ dV = .none) ∨ dps ≠ [] ∧ ∃ (T : Addr) (o : Obj) (its : List Value) (n : Nat), dV = .ref T ∧ K.lookup T = some o ∧ o.data = .seq its.toArray n ∧ ∃ vs, Vals vs its ∧ ∀ G, RpAll K G vs dps
def DfK (K : Frg) (kV : Value) (dks : List (Str × D)) : Prop := dks = [] ∨ ∃ A : Addr, kV = .ref A ∧ ∀ q ∈ dks, ∃ u, PySem.W.nsIn K A q.1 = some (some u) ∧ DfV K u q.2
/-- the values of a dict, by name -/
def DvAll (K : Frg) : List (Str × Value) → List (Str × D) → Prop
  | [], [] => True
  | (a, u) :: us, (b, d) :: kvs => a = b ∧ DfV K u d ∧ DvAll K us kvs
  | _, _ => False
theorem dct_val {K : Frg} : ∀ {us : List (Str × Value)} {kvs : List (Str × D)}, DvAll K us kvs → ∀ k d, kvs.lookup k = some d → ∃ u v, valueAt us k = some u ∧ RelV v u ∧ ∀ G, Rp K G v d
  | [], [], _, k, d, h => by cases h
  | [], _ :: _, h, _, _, _ => h.elim
  | _ :: _, [], h, _, _, _ => h.elim
  | (a, u) :: us, (b, d0) :: kvs, ⟨e, ⟨v, r1, r2⟩, t⟩, k, d, h => by
    subst e
    unfold List.lookup at h
    by_cases z : k = a
    · subst z
      rw [beq_self_eq_true] at h
      cases h
      exact ⟨u, v, by unfold valueAt; rw [List.find?_cons, decide_eq_true rfl]; rfl, r1, r2⟩
    · rw [beq_false_of_ne z] at h
      obtain ⟨u2, v2, h1, h2⟩ := dct_val t k d h
      refine ⟨u2, v2, ?_, h2⟩
      unfold valueAt at h1 ⊢
      rw [List.find?_cons, decide_eq_false (fun e => z e.symm)]
      exact h1
/-- a def as it stands behind the top -/
structure FunV (K : Frg) (x : Str) (st : Stmt) (dps : List D) (dks : List (Str × D)) (f : Addr) (fd : FuncData) : Prop where
  ex : ∃ (oc : Value) (od : Option Addr) (dV kV doc pm : Value) (an : Option Addr) (cdv ct : Value) (osl : Array (Option Value)),
    fd = PySem.W.fnOf x x (defArgs st) (defBody st) (defScope st) dV kV doc pm an cdv ct ∧ K.lookup f = some ⟨oc, od, .func fd, osl⟩ ∧ PySem.W.codeIn K cdv x = true ∧ DfP K dV dps ∧ DfK K kV dks
theorem rp_tupK {K : Frg} {a : Addr} {its : List Value} {n : Nat} {vs : List V} {ds : List D} (l : K.lookup a = some { cls := .type "tuple", data := .seq its.toArray n }) (rv : Vals vs its) (rp : ∀ G : Hp, RpAll K G vs ds) (G : Hp) (hz : its.length ≤ 1000 := by first | decide | simp) : Rp K G (.ref a) (.tuple ds) :=
  .tup (.inr ⟨_, its.toArray, n, l, rfl, rfl, by rw [List.size_toArray, sizeLine_eq]; omega, by simpa using rv⟩) (rp G)
theorem dfp_mk {K : Frg} {T : Addr} {its : List Value} {n : Nat} {vs : List V} {ds : List D} (ne : ds ≠ []) (l : K.lookup T = some { cls := .type "tuple", data := .seq its.toArray n }) (rv : Vals vs its) (rp : ∀ G : Hp, RpAll K G vs ds) : DfP K (.ref T) ds :=
  .inr ⟨ne, T, _, its, n, rfl, l, rfl, vs, rv, rp⟩
theorem funV_mk {K : Frg} {x : Str} {st : Stmt} {dps : List D} {dks : List (Str × D)} {f : Addr} {oc : Value} {od : Option Addr} {dV kV doc pm : Value} {an : Option Addr} {cdv ct : Value} {osl : Array (Option Value)}
    (l : K.lookup f = some ⟨oc, od, .func (PySem.W.fnOf x x (defArgs st) (defBody st) (defScope st) dV kV doc pm an cdv ct), osl⟩) (c : PySem.W.codeIn K cdv x = true) (p : DfP K dV dps) (k : DfK K kV dks) : ∃ fd, FunV K x st dps dks f fd :=
  ⟨_, ⟨oc, od, dV, kV, doc, pm, an, cdv, ct, osl, rfl, l, c, p, k⟩⟩
/-- where a parameter's value comes from: a keyword, a default by place, a default by name -/
inductive Src where
  | kw (i : Nat)
  | df (i : Nat)
  | ko (i : Nat)
def pickS {α : Type} (ws its mv : List α) : Src → Option α
  | .kw i => ws[i]?
  | .df i => its[i]?
  | .ko i => mv[i]?
def picks {α : Type} (ws its mv : List α) : List Src → Option (List α)
  | [] => some []
  | s :: r => match pickS ws its mv s, picks ws its mv r with
    | some a, some l => some (a :: l)
    | _, _ => none
structure Shp where
  n : Nat
  ks : List Str
  src : List Src
  ms : List (Str × D)
def bSrc (dps : List D) : List Shp → Nat → List (Str × D) → Option (List D)
  | [], _, _ => none
  | s :: r, n, kw => if s.n == n && s.ks == kw.map (·.1) then picks (kw.map (·.2)) dps (s.ms.map (·.2)) s.src else bSrc dps r n kw
theorem vals_at {vs : List V} {us : List Value} (r : Vals vs us) {i : Nat} {v : V} (h : vs[i]? = some v) : ∃ u, us[i]? = some u ∧ RelV v u := r.get h
theorem picks_rel {K : Frg} {G : Hp} {zs ds mz : List V} {ws its mv : List Value} {dz dd dm : List D} (r1 : Vals zs ws) (r2 : Vals ds its) (r3 : Vals mz mv) (p1 : RpAll K G zs dz) (p2 : RpAll K G ds dd) (p3 : RpAll K G mz dm) :
    ∀ {src : List Src} {ext : List D}, picks dz dd dm src = some ext → ∃ ues ves, picks ws its mv src = some ues ∧ Vals ves ues ∧ RpAll K G ves ext
  | [], ext, h => by cases h; exact ⟨[], [], rfl, .nil, .nil⟩
  | s :: r, ext, h => by
    unfold picks at h
    cases h1 : pickS dz dd dm s with
    | none => rw [h1] at h; cases h
    | some d =>
      cases h2 : picks dz dd dm r with
      | none => rw [h1, h2] at h; cases h
      | some l =>
        rw [h1, h2] at h
        cases h
        obtain ⟨ues, ves, k1, k2, k3⟩ := picks_rel r1 r2 r3 p1 p2 p3 h2
        have one : ∃ u v, pickS ws its mv s = some u ∧ RelV v u ∧ Rp K G v d := by
          cases s with
          | kw i =>
            obtain ⟨v, e1, e2⟩ := p1.get' (show dz[i]? = some d from h1)
            obtain ⟨u, e3, e4⟩ := vals_at r1 e1
            exact ⟨u, v, e3, e4, e2⟩
          | df i =>
            obtain ⟨v, e1, e2⟩ := p2.get' (show dd[i]? = some d from h1)
            obtain ⟨u, e3, e4⟩ := vals_at r2 e1
            exact ⟨u, v, e3, e4, e2⟩
          | ko i =>
            obtain ⟨v, e1, e2⟩ := p3.get' (show dm[i]? = some d from h1)
            obtain ⟨u, e3, e4⟩ := vals_at r3 e1
            exact ⟨u, v, e3, e4, e2⟩
        obtain ⟨u, v, e1, e2, e3⟩ := one
        exact ⟨u :: ues, v :: ves, by unfold picks; rw [e1, k1], .cons e2 k2, .cons e3 k3⟩
theorem picks_len {α : Type} {ws its mv : List α} : ∀ {src : List Src} {l : List α}, picks ws its mv src = some l → l.length = src.length
  | [], l, h => by cases h; rfl
  | s :: r, l, h => by
    unfold picks at h
    cases h1 : pickS ws its mv s with
    | none => rw [h1] at h; cases h
    | some d =>
      cases h2 : picks ws its mv r with
      | none => rw [h1, h2] at h; cases h
      | some m =>
        rw [h1, h2] at h
        cases h
        simp [picks_len h2]
/-- what a shape asks of the machine's own binding -/
def ShOk (x : Str) (st : Stmt) (ps : List Str) (nd : Nat) (s : Shp) : Prop :=
  s.n + s.src.length = ps.length ∧ ∀ (dV kV doc pm : Value) (an : Option Addr) (cdv ct : Value) (A : Addr) (us its mv ws ues : List Value), us.length = s.n → its.length = nd → mv.length = s.ms.length → ws.length = s.ks.length → picks ws its mv s.src = some ues →
    (s.ms ≠ [] → kV = .ref A) →
    (nd = 0 → dV = .none → KwChain A ((s.ms.map (·.1)).zip mv) (bindArgs (PySem.W.fnOf x x (defArgs st) (defBody st) (defScope st) dV kV doc pm an cdv ct) ⟨us, s.ks.zip ws⟩) (ps.zip (us ++ ues))) ∧
    (nd ≠ 0 → ∀ T : Addr, dV = .ref T → ∃ k, bindArgs (PySem.W.fnOf x x (defArgs st) (defBody st) (defScope st) dV kV doc pm an cdv ct) ⟨us, s.ks.zip ws⟩ = seqItems? (.ref T) >>= k ∧ KwChain A ((s.ms.map (·.1)).zip mv) (k (some its.toArray)) (ps.zip (us ++ ues)))
theorem zip_fst {α β : Type} {a : List α} {b : List β} (h : a.length = b.length) : (a.zip b).map (·.1) = a := List.map_fst_zip (by omega)
theorem zip_snd {α β : Type} {a : List α} {b : List β} (h : a.length = b.length) : (a.zip b).map (·.2) = b := List.map_snd_zip (by omega)
theorem bind_src {K : Frg} {x : Str} {st : Stmt} {dps : List D} {dks : List (Str × D)} {f : Addr} {fd : FuncData} {ps : List Str} (F : FunV K x st dps dks f fd) : ∀ {shs : List Shp}, (∀ s ∈ shs, ShOk x st ps dps.length s ∧ ∀ q ∈ s.ms, q ∈ dks) → BindP K fd ps (bSrc dps shs)
  | [], _ => fun s us vs ws zs ks ds G ext X r rz hl rp hB => by cases hB
  | sh :: shs, h => fun s us vs ws zs ks ds G ext X r rz hl rp hB => by
    unfold bSrc at hB
    split at hB
    · rename_i hc
      rw [Bool.and_eq_true, beq_iff_eq, beq_iff_eq] at hc
      obtain ⟨c1, c2⟩ := hc
      have lz : ks.length = ds.length := by rw [hl, rp.length]
      rw [zip_fst lz] at c2
      rw [zip_snd lz] at hB
      obtain ⟨⟨hlen, ok⟩, hms⟩ := h sh (.head _)
      obtain ⟨oc, od, dV, kV, doc, pm, an, cdv, ct, osl, efd, lk, hcd, hD, hK⟩ := F.ex
      -- the keyword-only defaults
      have ko : ∃ (A : Addr) (mv : List Value) (mz : List V), (sh.ms ≠ [] → kV = .ref A) ∧ mv.length = sh.ms.length ∧ Vals mz mv ∧ RpAll K G mz (sh.ms.map (·.2)) ∧ ∀ q ∈ (sh.ms.map (·.1)).zip mv, PySem.W.nsIn K A q.1 = some (some q.2) := by
        rcases hK with e | ⟨A, eA, hA⟩
        · have em : sh.ms = [] := by
            cases hm : sh.ms with
            | nil => rfl
            | cons q r =>
              have := hms q (by rw [hm]; exact .head _)
              rw [e] at this
              cases this
          rw [em]
          exact ⟨0, [], [], fun z => absurd rfl z, rfl, .nil, .nil, fun q hq => by cases hq⟩
        · have go : ∀ ms : List (Str × D), (∀ q ∈ ms, q ∈ dks) → ∃ (mv : List Value) (mz : List V), mv.length = ms.length ∧ Vals mz mv ∧ RpAll K G mz (ms.map (·.2)) ∧ ∀ q ∈ (ms.map (·.1)).zip mv, PySem.W.nsIn K A q.1 = some (some q.2) := by
            intro ms
            induction ms with
            | nil => intro _; exact ⟨[], [], rfl, .nil, .nil, fun q hq => by cases hq⟩
            | cons m ms ih =>
              intro hm
              obtain ⟨mv, mz, k1, k2, k3, k4⟩ := ih fun q hq => hm q (.tail _ hq)
              obtain ⟨u, e1, v, e2, e3⟩ := hA m (hm m (.head _))
              refine ⟨u :: mv, v :: mz, by simp [k1], .cons e2 k2, .cons (e3 G) k3, fun q hq => ?_⟩
              rcases List.mem_cons.mp (show q ∈ (m.1, u) :: (ms.map (·.1)).zip mv from hq) with e | hq
              · rw [e]; exact e1
              · exact k4 q hq
          obtain ⟨mv, mz, k1, k2, k3, k4⟩ := go sh.ms hms
          exact ⟨A, mv, mz, fun _ => eA, k1, k2, k3, k4⟩
      obtain ⟨A, mv, mz, hkV, lmv, rmv, pmv, nsm⟩ := ko
      have lw : ws.length = sh.ks.length := by rw [c2, hl, rz.length]
      rcases hD with ⟨e1, e2⟩ | ⟨ne, T, o, its, m, eT, lT, oT, dvs, rT, pT⟩
      · have hB' : picks ds [] (sh.ms.map (·.2)) sh.src = some ext := e1 ▸ hB
        obtain ⟨ues, ves, q1, q2, q3⟩ := picks_rel rz (.nil : Vals [] []) rmv rp (.nil : RpAll K G [] []) pmv hB'
        have k1 := (ok dV kV doc pm an cdv ct A us [] mv ws ues c1.symm (by rw [e1]; rfl) lmv lw q1 hkV).1 (by rw [e1]; rfl) e2
        rw [c2] at k1
        refine ⟨ues, ves, BindsTo.of_looks fun M => ?_, q2, q3, ?_⟩
        · rw [efd]
          exact KwChain.looks X nsm k1
        · rw [picks_len q1]
          omega
      · have pT' := pT G
        obtain ⟨ues, ves, q1, q2, q3⟩ := picks_rel rz rT rmv rp pT' pmv hB
        have lT2 : its.length = dps.length := by rw [← rT.length, pT'.length]
        by_cases en : dps.length = 0
        · exact absurd (List.eq_nil_of_length_eq_zero en) ne
        · obtain ⟨k, k1, k2⟩ := (ok dV kV doc pm an cdv ct A us its mv ws ues c1.symm lT2 lmv lw q1 hkV).2 en T eT
          rw [c2] at k1
          refine ⟨ues, ves, BindsTo.of_looks fun M => ?_, q2, q3, ?_⟩
          · rw [efd, k1]
            exact looks_items X lT oT (KwChain.looks X nsm k2)
          · rw [picks_len q1]
            omega
    · exact bind_src F (fun s hs => h s (.tail _ hs)) s us vs ws zs ks ds G ext X r rz hl rp hB
/-- a def joins the table -/
theorem EnvOk.defV {P : Program} {w : World} {K : Frg} {mg : Str → Option Value} {base : Heap} {k : Nat} {Φ : Env'} {x : Str} {f : Addr} {st : Stmt} {fd : FuncData} {N ps nb : List Str} {dps : List D} {dks : List (Str × D)} {shs : List Shp} {b : Sts} (o : EnvOk P w K mg base k Φ) (F : FunV K x st dps dks f fd) (h1 : mg x = some (.ref f)) (S : FnScope N ps (defScope st))
    (hb : ∀ s ∈ shs, ShOk x st ps dps.length s ∧ ∀ q ∈ s.ms, q ∈ dks) (nbs : ∀ y, y ∈ nb → mg y = none) (ch : chSs ⟨N, defScope st, nb, false, defScope st⟩ [] b (defBody st) = true) : VFn P w K mg base (k + 1) f (semF Φ N.length (bSrc dps shs) b) := by
  obtain ⟨oc, od, dV, kV, doc, pm, an, cdv, ct, osl, efd, lk, hcd, hD, hK⟩ := F.ex
  have B := bind_src F hb
  subst efd
  exact v_body lk hcd S B o.fn o.gc nbs o.ex o.sub o.tb ch
end PV
set_option Elab.async false
set_option linter.all false
set_option autoImplicit false
set_option maxRecDepth 100000
set_option maxHeartbeats 4000000
/-! PV: defs with a star parameter. -/
namespace PV
open PySem PySem.Spec PyProof.Rows L2
def valsS : List Slot → Option (List D)
  | [] => some []
  | .val d :: rs => (valsS rs).map (d :: ·)
  | _ :: _ => none
theorem valsS_eq : ∀ {as : List Slot} {ds : List D}, valsS as = some ds → as = ds.map .val
  | [], ds, h => by cases h; rfl
  | .val d :: rs, ds, h => by
    unfold valsS at h
    cases q : valsS rs with
    | none => rw [q] at h; cases h
    | some l => rw [q] at h; cases h; rw [valsS_eq q]; rfl
  | .non :: _, _, h => by cases h
  | .own _ _ :: _, _, h => by cases h
  | .st _ :: _, _, h => by cases h
@[simp] theorem valsS_map {ds : List D} : valsS (ds.map .val) = some ds := by
  induction ds with
  | nil => rfl
  | cons d ds ih => show (valsS (ds.map .val)).map (d :: ·) = _; rw [ih]; rfl
/-- a def that gathers what is left over -/
def semV (Φ : Env') (n np : Nat) (shs : List Shp) (b : Sts) : FSem := fun as kw => if np ≤ as.length then match valsS (as.drop np), bSrc [] shs np kw with
  | some ds, some ext => if fitsL ds.length then match runB Φ n b (as.take np ++ (ext ++ [PyData.tuple ds]).map .val) with
    | .ok r as' => .ok r (as'.take np ++ ds.map .val)
    | .exc e as' => .exc e (as'.take np ++ ds.map .val)
    | .stuck => .stuck
    else .stuck
  | _, _ => .stuck
  else .stuck
/-- t looks the names up, one behind another, and goes on with r -/
def KwThen {α : Type} (D : Addr) : List (Str × Value) → Sem α → Sem α → Prop
  | [], t, r => t = r
  | q :: l, t, r => ∃ (β γ : Type) (k1 : Option Value → Sem β) (k2 : β → Sem γ) (k3 : γ → Sem α) (a : β), t = ((nsGet D q.1 >>= k1) >>= k2) >>= k3 ∧ k1 (some q.2) = pure a ∧ KwThen D l (k2 a >>= k3) r
theorem KwThen.wp {α : Type} {K : PySem.W.Frag} {M : Model} {A : Around} {D : Addr} {s : Shared} {Q : α → Shared → Prop} {E : Value → Shared → Prop} (X : K.In s.heap) : ∀ {l : List (Str × Value)} {t r : Sem α}, (∀ q ∈ l, PySem.W.nsIn K D q.1 = some (some q.2)) → KwThen D l t r → wpAny M A r Q E s → wpAny M A t Q E s
  | [], t, r, _, e, h => by cases e; exact h
  | q :: l, t, r, hl, e, h => by
    obtain ⟨β, γ, k1, k2, k3, a, e1, e2, e3⟩ := e
    have l1 : PySem.W.Looks M s.heap (nsGet D q.1 >>= k1) a := (PySem.W.looks_nsIn X (hl q (List.mem_cons_self ..))).andThen (PySem.W.Looks.of_pure e2)
    rw [e1, bind_assoc]
    exact wpAny_bind (l1 A _ E s (fun _ _ e => e) (KwThen.wp X (fun p hp => hl p (List.mem_cons_of_mem _ hp)) e3 h))
/-- what a shape asks of the machine's own binding -/
def ShOkV (x : Str) (st : Stmt) (ps : List Str) (pv : Str) (np : Nat) (s : Shp) : Prop :=
  s.n = np ∧ s.n + s.src.length = ps.length ∧ ∀ (kV doc pm : Value) (an : Option Addr) (cdv ct : Value) (A : Addr) (us rest mv ws ues : List Value), us.length = s.n → mv.length = s.ms.length → ws.length = s.ks.length → picks ws [] mv s.src = some ues →
    (s.ms ≠ [] → kV = .ref A) →
    KwThen A ((s.ms.map (·.1)).zip mv) (bindArgs (PySem.W.fnOf x x (defArgs st) (defBody st) (defScope st) .none kV doc pm an cdv ct) ⟨us ++ rest, s.ks.zip ws⟩) (newTuple rest >>= fun t => pure (ps.zip (us ++ ues) ++ [(pv, t)]))
def BindPV (K : Frg) (fd : FuncData) (np : Nat) (ps : List Str) (pv : Str) (shs : List Shp) : Prop :=
  ∀ (s : Shared) (us rest ws : List Value) (zs : List V) (ks : List Str) (ds : List D) (G : Hp) (ext : List D), K.In s.heap → us.length = np → Vals zs ws → ks.length = zs.length → RpAll K G zs ds → bSrc [] shs np (ks.zip ds) = some ext →
    ∃ ues ves, (∀ (M : Model) (A : Around) (Q : List (Str × Value) → Shared → Prop) (E : Value → Shared → Prop), wpAny M A (newTuple rest >>= fun t => pure (ps.zip (us ++ ues) ++ [(pv, t)])) Q E s → wpAny M A (bindArgs fd ⟨us ++ rest, ks.zip ws⟩) Q E s) ∧
      Vals ves ues ∧ RpAll K G ves ext ∧ us.length + ues.length = ps.length
theorem bind_srcV {K : Frg} {x : Str} {st : Stmt} {dks : List (Str × D)} {f : Addr} {fd : FuncData} {ps : List Str} {pv : Str} {np : Nat} (F : FunV K x st [] dks f fd) : ∀ {shs : List Shp}, (∀ s ∈ shs, ShOkV x st ps pv np s ∧ ∀ q ∈ s.ms, q ∈ dks) → BindPV K fd np ps pv shs
  | [], _ => fun s us rest ws zs ks ds G ext X _ rz hl rp hB => by cases hB
  | sh :: shs, h => fun s us rest ws zs ks ds G ext X hu rz hl rp hB => by
    unfold bSrc at hB
    split at hB
    · rename_i hc
      rw [Bool.and_eq_true, beq_iff_eq, beq_iff_eq] at hc
      obtain ⟨c1, c2⟩ := hc
      have lz : ks.length = ds.length := by rw [hl, rp.length]
      rw [zip_fst lz] at c2
      rw [zip_snd lz] at hB
      obtain ⟨⟨hnp, hlen, ok⟩, hms⟩ := h sh (.head _)
      obtain ⟨oc, od, dV, kV, doc, pm, an, cdv, ct, osl, efd, lk, hcd, hD, hK⟩ := F.ex
      have ko : ∃ (A : Addr) (mv : List Value) (mz : List V), (sh.ms ≠ [] → kV = .ref A) ∧ mv.length = sh.ms.length ∧ Vals mz mv ∧ RpAll K G mz (sh.ms.map (·.2)) ∧ ∀ q ∈ (sh.ms.map (·.1)).zip mv, PySem.W.nsIn K A q.1 = some (some q.2) := by
        rcases hK with e | ⟨A, eA, hA⟩
        · have em : sh.ms = [] := by
            cases hm : sh.ms with
            | nil => rfl
            | cons q r =>
              have := hms q (by rw [hm]; exact .head _)
              rw [e] at this
              cases this
          rw [em]
          exact ⟨0, [], [], fun z => absurd rfl z, rfl, .nil, .nil, fun q hq => by cases hq⟩
        · have go : ∀ ms : List (Str × D), (∀ q ∈ ms, q ∈ dks) → ∃ (mv : List Value) (mz : List V), mv.length = ms.length ∧ Vals mz mv ∧ RpAll K G mz (ms.map (·.2)) ∧ ∀ q ∈ (ms.map (·.1)).zip mv, PySem.W.nsIn K A q.1 = some (some q.2) := by
            intro ms
            induction ms with
            | nil => intro _; exact ⟨[], [], rfl, .nil, .nil, fun q hq => by cases hq⟩
            | cons m ms ih =>
              intro hm
              obtain ⟨mv, mz, k1, k2, k3, k4⟩ := ih fun q hq => hm q (.tail _ hq)
              obtain ⟨u, e1, v, e2, e3⟩ := hA m (hm m (.head _))
              refine ⟨u :: mv, v :: mz, by simp [k1], .cons e2 k2, .cons (e3 G) k3, fun q hq => ?_⟩
              rcases List.mem_cons.mp (show q ∈ (m.1, u) :: (ms.map (·.1)).zip mv from hq) with e | hq
              · rw [e]; exact e1
              · exact k4 q hq
          obtain ⟨mv, mz, k1, k2, k3, k4⟩ := go sh.ms hms
          exact ⟨A, mv, mz, fun _ => eA, k1, k2, k3, k4⟩
      obtain ⟨A, mv, mz, hkV, lmv, rmv, pmv, nsm⟩ := ko
      have lw : ws.length = sh.ks.length := by rw [c2, hl, rz.length]
      obtain ⟨ues, ves, q1, q2, q3⟩ := picks_rel rz (.nil : Vals [] []) rmv rp (.nil : RpAll K G [] []) pmv hB
      have e2 : dV = .none := by
        rcases hD with ⟨_, e⟩ | ⟨e, _⟩
        · exact e
        · exact absurd rfl e
      have k1 := ok kV doc pm an cdv ct A us rest mv ws ues (by rw [hu, hnp]) lmv lw q1 hkV
      rw [c2] at k1
      refine ⟨ues, ves, fun M A' Q E hw => ?_, q2, q3, ?_⟩
      · rw [efd, e2]
        exact KwThen.wp X nsm k1 hw
      · rw [picks_len q1, hu, ← hnp]
        exact hlen
    · exact bind_srcV F (fun s hs => h s (.tail _ hs)) s us rest ws zs ks ds G ext X hu rz hl rp hB
/-- THE RULE for a def with a star -/
theorem v_bodyV {P : Program} {w : World} {K : Frg} {mg : Str → Option Value} {base : Heap} {k : Nat} {f : Addr} {name qual : Str} {params : Arguments} {body : List Stmt} {scope : Scope} {dV kV doc pm cdv ct oc : Value} {an od : Option Addr} {osl : Array (Option Value)} {N ps nb : List Str} {pv : Str} {np : Nat} {shs : List Shp} {Φ : Env'} {b : Sts}
    (lk : K.lookup f = some ⟨oc, od, .func (PySem.W.fnOf name qual params body scope dV kV doc pm an cdv ct), osl⟩) (hcd : PySem.W.codeIn K cdv qual = true) (S : FnScope N (ps ++ [pv]) scope) (hB : BindPV K (PySem.W.fnOf name qual params body scope dV kV doc pm an cdv ct) np ps pv shs)
    (fns : ∀ x S, Φ.fn x = some S → ∃ f, mg x = some (.ref f) ∧ PySem.W.keepIn K (.ref f) = true ∧ VFn P w K mg base k f S) (gcs : ∀ x d, Φ.gc x = some d → ∃ u v, mg x = some u ∧ RelV v u ∧ ∀ G, Rp K G v d) (nbs : ∀ x, x ∈ nb → mg x = none) (exs : ∀ x fs, Φ.ex x = some fs → ∃ j, j + 1 ≤ k ∧ MkE P w K mg base j x fs) (subs : ∀ x t b, Φ.sub x t = some b → TbOk K mg x t b) (tbs : ∀ x kvs, Φ.tb x = some kvs → ∃ a, mg x = some (.ref a) ∧ DctK P w K a kvs)
    (ch : chSs ⟨N, scope, nb, false, scope⟩ [] b body = true) : VFn P w K mg base (k + 1) f (semV Φ N.length np shs b) := by
  intro A outer s W us ws vs zs as ks ds pa Q E hr hgd e0 r rz hl so rp po
  have vl0 : vs.length = as.length := by rw [so.len, List.length_map]
  have ul : us.length = as.length := by rw [← vl0, ← r.length]
  unfold semV at po
  by_cases hn0 : ¬ np ≤ as.length
  · rw [if_neg hn0] at po; exact po.elim
  have hn : np ≤ as.length := Decidable.not_not.mp hn0
  rw [if_pos hn] at po
  cases hd : valsS (as.drop np) with
  | none => rw [hd] at po; exact po.elim
  | some dr =>
  cases hb : bSrc [] shs np (ks.zip ds) with
  | none => rw [hd, hb] at po; exact po.elim
  | some ext =>
  rw [hd, hb] at po
  simp only at po
  by_cases hz0 : ¬ fitsL dr.length = true
  · rw [if_neg hz0] at po; exact po.elim
  have hz : fitsL dr.length = true := Decidable.not_not.mp hz0
  rw [if_pos hz] at po
  have KX : K.In s.heap := e0.mod.kin.keeps fun b o e => (e0.bs b o e).1
  have hun : (us.take np).length = np := by rw [List.length_take]; omega
  have hvn : (vs.take np).length = np := by rw [List.length_take]; omega
  obtain ⟨ues, ves, bt, rv, rx, hlen⟩ := hB s (us.take np) (us.drop np) ws zs ks ds W.G ext KX hun rz hl rp hb
  have ev0 : vs.take np ++ vs.drop np = vs := List.take_append_drop np vs
  have er := valsS_eq hd
  have dl : dr.length = (vs.drop np).length := by
    have := congrArg List.length er
    rw [List.length_drop, List.length_map] at this
    rw [List.length_drop]
    omega
  have rpR : RpAll K W.G (vs.drop np) dr := by
    have go : ∀ (vs2 : List V) (dr : List D) (n : Nat), vs2.length = dr.length → (∀ i v, vs2[i]? = some v → vs[n + i]? = some v) → (∀ i d, dr[i]? = some d → as[n + i]? = some (.val d)) → RpAll K W.G vs2 dr := by
      intro vs2
      induction vs2 with
      | nil => intro dr n h _ _; cases dr with | nil => exact .nil | cons _ _ => cases h
      | cons v vs2 ih =>
        intro dr n h h1 h2
        cases dr with
        | nil => cases h
        | cons d dr =>
          obtain ⟨v', e1, e2⟩ := so.slots n _ (h2 0 d rfl)
          have e3 : vs[n]? = some v := h1 0 v rfl
          rw [List.getElem?_map, e3] at e1
          cases e1
          refine .cons e2 (ih dr (n + 1) (by simpa using h) (fun i v' e => ?_) (fun i d' e => ?_))
          · rw [Nat.add_assoc, Nat.add_comm 1 i]; exact h1 (i + 1) v' e
          · rw [Nat.add_assoc, Nat.add_comm 1 i]; exact h2 (i + 1) d' e
    refine go _ _ np dl.symm (fun i v e => by rw [List.getElem?_drop] at e; exact e) (fun i d e => ?_)
    have : (as.drop np)[i]? = some (.val d) := by rw [er, List.getElem?_map, e]; rfl
    rw [List.getElem?_drop] at this
    exact this
  have so1 : SO ⟨K, mg, pa, W.H⟩ W ((vs.take np).map some) (as.take np) := by
    have z := so_take (vs := vs.take np) (ves := vs.drop np) (by rw [ev0]; exact so)
    rw [hvn] at z
    exact z
  have hz2 : (vs.drop np).length ≤ sizeLine := by rw [← dl]; exact fitsL_ok hz
  have vl : (vs.take np ++ ves).length = ps.length := by rw [List.length_append, hvn, rv.length, ← hun]; exact hlen
  have hfree : W.H s.heap.objs.size = none := e0.hok.fresh (Nat.le_refl _)
  refine StX.run_bnd (CX := L2.CX P w) (N := N) (ps := ps ++ [pv]) (G := fun vs' H2 => ∃ p, W.H p = none ∧ vs' = vs.take np ++ (ves ++ [V.ref p]) ∧ H2 = upd W.H p (.tup (vs.drop np))) lk hcd S hr e0 (fun A' Ex Q' h => ?_) fun s2 H2 vs' ⟨p, hp, ev, eH⟩ hr' => ?_
  · rw [show us = us.take np ++ us.drop np from (List.take_append_drop np us).symm]
    refine bt _ _ _ _ (wpAny_bind (wpAny_newTuple (wpAny_pure ?_) (by rw [← (r.drop np).length]; exact hz2)))
    have new : ObjOk P w (upd W.H s.heap.objs.size (.tup (vs.drop np))) (s.heap.push ({ cls := .type "tuple", data := .seq (us.drop np).toArray } : Obj)) s.heap.objs.size (.tup (vs.drop np)) := ⟨hz2, us.drop np, r.drop np, ⟨_, Heap.get?_push_size _ rfl, rfl, _, rfl⟩⟩
    have un := StX.un_laid (fs := frs outer) (s := s) (o := ({ cls := .type "tuple", data := .seq (us.drop np).toArray } : Obj)) (u := .tup (vs.drop np)) hfree
    have z := h _ _ (vs.take np ++ (ves ++ [V.ref s.heap.objs.size])) ((us.take np ++ ues) ++ [Value.ref s.heap.objs.size]) (StX.env0_laid e0 new) un rfl (fun e s' => StX.cxUp outer s W.H _ _ E e s' un (fun b o q => Heap.get?_push_of_some _ q) rfl) (by
        rw [← List.append_assoc]
        exact ((r.take np).append rv).append (.cons rfl .nil)) (by rw [← List.append_assoc, List.length_append (bs := [V.ref s.heap.objs.size]), vl, List.length_append]; rfl) ⟨_, hfree, rfl, rfl⟩
    have hpl : ps.length = (us.take np ++ ues).length := by rw [List.length_append]; exact hlen.symm
    rw [List.zip_append hpl] at z
    exact z
  · subst ev eH
    have o : XOk (cxOf (L2.CX P w) P w K mg base N qual scope f cdv A outer s2 (upd W.H p (.tup (vs.drop np))) E) ⟨K, mg, pa, W.H⟩ (fun cls d _ H => E cls d H) k Φ ⟨N, scope, nb, false, scope⟩ :=
      ⟨rfl, rfl, rfl, S.nd, rfl, S.kind, rfl, fun _ _ => rfl, fun h => (nomatch h), fun _ => L2.passes_of rfl, L2.takes_of rfl rfl rfl rfl, hr', hgd, fns, gcs, nbs, exs, subs, tbs, fun _ => ⟨rfl, rfl, rfl⟩⟩
    refine ⟨_, sndSs b o rfl ch, ?_⟩
    obtain ⟨so2, ex⟩ := so_upd (o := .tup (vs.drop np)) (fz := true) so1 hp
    have rpT : Rp K (W.add p (.tup (vs.drop np)) true).G (.ref p) (.tuple dr) := .tup (.inl (.of Wd.add_Gp)) (RpAll.mono ex.fz rpR)
    have so2 := so_ext so2 ((RpAll.mono ex.fz rx).append (.cons rpT .nil))
    have so3 := so_start (N := N) so2
    refine ⟨_, _, rfl, so3, ?_⟩
    unfold runB at po
    have tk : ∀ {W' : Wd} {σ' : L2.St} {ρ : List Slot} {as' : List Slot}, Ext (W.add p (.tup (vs.drop np)) true) W' → SO ⟨K, mg, pa, W.H⟩ W' σ' ρ → outArgs 0 (as.take np ++ (ext ++ [PyData.tuple dr]).map .val) ρ = some as' → SO ⟨K, mg, pa, W.H⟩ W' (vs.map some) (as'.take np ++ dr.map .val) := fun {W' σ' ρ as'} a s' ho => by
      have z := so_take (out_so so2 a s' ho)
      rw [hvn] at z
      have z2 := so_ext z (RpAll.mono (ex.trans a).fz rpR)
      rw [ev0] at z2
      exact z2
    cases q : exSs Φ b ((as.take np ++ (ext ++ [PyData.tuple dr]).map .val) ++ List.replicate (N.length - (as.take np ++ (ext ++ [PyData.tuple dr]).map Slot.val).length) .non) with
    | stuck => rw [q] at po; exact po.elim
    | exc e ρ =>
      rw [q] at po
      intro cls od σ' W' a s' x
      cases ho : outArgs 0 (as.take np ++ (ext ++ [PyData.tuple dr]).map .val) ρ with
      | none => simp only [ho] at po; exact po.elim
      | some as' =>
        simp only [ho] at po
        exact po cls od W' (ex.trans a) (tk a s' ho) x
    | ok fl ρ =>
      rw [q] at po
      intro W' σ' a s' _
      cases fl with
      | brk => exact po.elim
      | cnt => exact po.elim
      | nx =>
        simp only [endR] at po
        cases ho : outArgs 0 (as.take np ++ (ext ++ [PyData.tuple dr]).map .val) ρ with
        | none => simp only [ho] at po; exact po.elim
        | some as' =>
          simp only [ho] at po
          exact po W' .non (ex.trans a) (tk a s' ho) .non
      | ret r =>
        simp only [endR] at po
        intro v rt
        cases ho : outArgs 0 (as.take np ++ (ext ++ [PyData.tuple dr]).map .val) ρ with
        | none => simp only [ho] at po; exact po.elim
        | some as' =>
          simp only [ho] at po
          cases r with
          | bor i => exact rt.elim
          | val d => exact po W' v (ex.trans a) (tk a s' ho) rt
          | fr m => exact po W' v (ex.trans a) (tk a s' ho) rt
          | st t => exact po W' v (ex.trans a) (tk a s' ho) rt
/-- a def with a star joins the table -/
theorem EnvOk.defS {P : Program} {w : World} {K : Frg} {mg : Str → Option Value} {base : Heap} {k : Nat} {Φ : Env'} {x : Str} {f : Addr} {st : Stmt} {fd : FuncData} {N ps nb : List Str} {pv : Str} {np : Nat} {dks : List (Str × D)} {shs : List Shp} {b : Sts} (o : EnvOk P w K mg base k Φ) (F : FunV K x st [] dks f fd) (h1 : mg x = some (.ref f)) (S : FnScope N (ps ++ [pv]) (defScope st))
    (hb : ∀ s ∈ shs, ShOkV x st ps pv np s ∧ ∀ q ∈ s.ms, q ∈ dks) (nbs : ∀ y, y ∈ nb → mg y = none) (ch : chSs ⟨N, defScope st, nb, false, defScope st⟩ [] b (defBody st) = true) : VFn P w K mg base (k + 1) f (semV Φ N.length np shs b) := by
  obtain ⟨oc, od, dV, kV, doc, pm, an, cdv, ct, osl, efd, lk, hcd, hD, hK⟩ := F.ex
  have B := bind_srcV F hb
  subst efd
  exact v_bodyV lk hcd S B o.fn o.gc nbs o.ex o.sub o.tb ch
end PV
set_option Elab.async false
set_option linter.all false
set_option autoImplicit false
set_option maxRecDepth 100000
set_option maxHeartbeats 2000000
/-! PV: classes of errors join the table. -/
namespace PV
open PySem PySem.Spec PyProof.Rows L2
/-- the __init__ of a class's text -/
def initS (s : Stmt) : Stmt := match s with
  | .ClassDef _ _ _ (b :: _) .. => b
  | _ => s
def Env'.exc (Φ : Env') (x : Str) (fs : List Str) : Env' := ⟨Φ.fn, Φ.gc, fun y => if y == x then some fs else Φ.ex y, Φ.sub, Φ.tb⟩
def Env'.tab (Φ : Env') (T : List (Str × Str × Bool)) : Env' := ⟨Φ.fn, Φ.gc, Φ.ex, fun x t => (T.find? fun p => p.1 == x && p.2.1 == t).map (·.2.2), Φ.tb⟩
section
variable {P : Program} {w : World} {K : Frg} {mg : Str → Option Value} {base : Heap} {k j : Nat} {Φ : Env'} {x t : Str} {C C2 fI : Addr} {fs : List Str} {b : Bool}
theorem ecC_mk (cl : PySem.W.isClsIn K C = true) (ga : PySem.W.findIn K (.ref C) "__getattribute__" = some (some (.builtin "BaseException.__getattribute__"))) (gg : PySem.W.findIn K (.ref C) "__getattr__" = some none)
    (sub : PySem.W.subIn K (.ref C) (.type "BaseException") = some true) (ca : PySem.W.findIn K (.ref C) "__class__" = some (some (.builtin "object.__class__")))
    (gs : PySem.W.specialIn K (.builtin "object.__class__") "__get__" = some (some (.builtin "getset_descriptor.__get__"))) (tk : PySem.W.takesIn K (.builtin "object.__class__") = some true) (mo : PySem.W.mroIn K C (.type "object") = some true) (hd : PySem.W.hasDictIn K C = true) : EcC K C :=
  ⟨cl, ga, gg, sub, ca, gs, tk, mo, hd⟩
theorem tb_mk (hx : mg x = some (.ref C)) (ht : mg t = some (.ref C2)) (ne : t ≠ "__name__") (ec : EcC K C) (s2 : PySem.W.subIn K (.ref C2) (.type "BaseException") = some true) (c2 : PySem.W.isClsIn K C2 = true) (t2 : PySem.W.typeIn K (.ref C2) = some (.type "type"))
    (self : PySem.W.subIn K (.ref C2) (.ref C2) = some true) (h : PySem.W.subIn K (.ref C) (.ref C2) = some b) : TbOk K mg x t b := by
  have e2 : ((PySem.W.clsIn K C2).isSome && PySem.W.typeIn K (.ref C2) == some (.type "type")) = true := by
    have h2' : (PySem.W.clsIn K C2).isSome = true := c2
    rw [h2', t2] <;> rfl
  have kc : PySem.W.kitCls K (.ref C) (.ref C2) = some b := by
    show (if ((PySem.W.clsIn K C2).isSome && PySem.W.typeIn K (.ref C2) == some (.type "type")) = true then PySem.W.subIn K (.ref C) (.ref C2) else none) = some b
    rw [if_pos e2]
    exact h
  refine ⟨C, .ref C2, .ref C2, hx, ⟨.own C2, ne, .inl ht⟩, ec, ?_, ?_⟩
  · unfold PySem.W.exmOne
    rw [if_pos (show (PySem.W.subIn K (.ref C2) (.type "BaseException") == some true) = true from by rw [s2] <;> rfl)]
    exact kc
  · unfold PySem.W.kitOne
    by_cases z : (Value.ref C == Value.ref C2) = true
    · rw [if_pos z]
      have e : C = C2 := Value.ref.inj (beq_iff_eq.mp z)
      subst e
      rw [self] at h
      exact h
    · rw [if_neg z]
      exact kc
theorem mkE_mk {name qual : Str} {params : Arguments} {body : List Stmt} {scope : Scope} {doc pm cdv ct oc : Value} {an od : Option Addr} {osl : Array (Option Value)} {ps : List Str}
    {nm q : Str} {N : Addr} {bs bm : List Value} {sn : List Str} {sub : List Value} {ab : Bool} {col : Option Bool} {dd : Option Addr} {m0 m1 m2 m3 m5 : Option Value}
    (hx : mg x = some (.ref C)) (ec : EcC K C) (hno : ∀ f ∈ fs, PySem.W.findIn K (.ref C) f = some none) (lC : K.lookup C = some (excClassObj nm q C N bs bm true sn sub ab col dd m0 m1 m2 m3 m5 "ValueError.__new__")) (hbm : PySem.HandSPX.refsVE bm = true)
    (sa : PySem.W.findIn K (.ref C) "__setattr__" = some (some (.builtin "object.__setattr__"))) (ty : PySem.W.typeIn K (.ref C) = some (.type "type")) (kC : PySem.W.keepIn K (.ref C) = true)
    (iC : PySem.W.findIn K (.ref C) "__init__" = some (some (.ref fI))) (tI : PySem.W.typeIn K (.ref fI) = some (.type "function"))
    (lk : K.lookup fI = some ⟨oc, od, .func (PySem.W.fnOf name qual params body scope .none .none doc pm an cdv ct), osl⟩) (hcd : PySem.W.codeIn K cdv qual = true) (S : FnScope ps ps scope) (hb : initB fs ps body = true) (vis : (ps.all fun y => isLC scope y) = true) (few : fs.length ≤ 900)
    (binds : ∀ (kV doc pm : Value) (an : Option Addr) (cdv ct : Value) (us : List Value), us.length = ps.length → bindArgs (PySem.W.fnOf name qual params body scope .none .none doc pm an cdv ct) ⟨us, []⟩ = pure (ps.zip us)) : MkE P w K mg base 1 x fs := by
  have T : OexC K C := ⟨⟨nm, q, N, bs, bm, sn, sub, ab, col, dd, m0, m1, m2, m3, m5, lC, hbm⟩, sa, ec.sub, ty, kC⟩
  refine ⟨⟨C, fI, _, ps, hx, ec, hno, T, iC, tI, init_of T hno lk hcd S hb fun y hy => ?_, fun s us _ hl => ?_⟩, few⟩
  · have z := List.all_eq_true.mp vis y hy
    unfold isLC at z
    unfold Vis
    split at z
    · exact .inl (by assumption)
    · exact .inr (.inl (by assumption))
    · cases z
  · rw [List.append_nil] at *
    exact .of_eq (binds .none doc pm an cdv ct us hl)
theorem EnvOk.exc (o : EnvOk P w K mg base k Φ) (h : MkE P w K mg base j x fs) (hj : j + 1 ≤ k) : EnvOk P w K mg base k (Φ.exc x fs) := by
  refine ⟨o.fn, o.gc, fun y gs hy => ?_, o.sub, o.tb⟩
  unfold Env'.exc at hy
  simp only at hy
  split at hy
  · rename_i e
    cases hy
    rw [eq_of_beq e]
    exact ⟨j, hj, h⟩
  · exact o.ex y gs hy
theorem EnvOk.tab (o : EnvOk P w K mg base k Φ) {T : List (Str × Str × Bool)} (h : ∀ p ∈ T, TbOk K mg p.1 p.2.1 p.2.2) : EnvOk P w K mg base k (Φ.tab T) := by
  refine ⟨o.fn, o.gc, o.ex, fun x t b hb => ?_, o.tb⟩
  unfold Env'.tab at hb
  simp only at hb
  cases q : T.find? fun p => p.1 == x && p.2.1 == t with
  | none => rw [q] at hb; cases hb
  | some p =>
    rw [q] at hb
    cases hb
    have m := List.mem_of_find?_eq_some q
    have z := List.find?_some q
    simp only [Bool.and_eq_true] at z
    have z1 := eq_of_beq z.1
    have z2 := eq_of_beq z.2
    subst z1 z2
    exact h p m
end
end PV
set_option Elab.async false
set_option linter.all false
set_option autoImplicit false
set_option maxRecDepth 100000
set_option maxHeartbeats 4000000
/-! PV: reckoning the interpreter. -/
namespace PV
open PySem PySem.Spec PyProof.Rows L2
/-- what holds behind a reckoning: Q where it ends, Z where an error leaves it -/
@[irreducible] def wpM {α : Type} (Z : Exn → List Slot → Prop) (m : M α) (ρ : List Slot) (Q : α → List Slot → Prop) : Prop := match m ρ with
  | .ok a ρ' => Q a ρ'
  | .exc e ρ' => Z e ρ'
  | .stuck => False
@[irreducible] def wpF (Z : Exn → List Slot → Prop) (S : FSem) (as : List Slot) (kw : List (Str × D)) (Q : Rv → List Slot → Prop) : Prop := match S as kw with
  | .ok r as' => Q r as'
  | .exc e as' => Z e as'
  | .stuck => False
/-- no error leaves it -/
def noX : Exn → List Slot → Prop := fun _ _ => False
section
variable {α β : Type} {ρ : List Slot} {Z : Exn → List Slot → Prop} {Q : α → List Slot → Prop} {R : β → List Slot → Prop}
theorem wp_ok1 {a : α} {ρ1 ρ' : List Slot} {f : List Slot → Res α} (h : f ρ1 = .ok a ρ') : wpM Z f ρ1 Q ↔ Q a ρ' := by unfold wpM; rw [h]
theorem wpM.mono {m : M α} {Q' : α → List Slot → Prop} (h : wpM Z m ρ Q) (w : ∀ a ρ', Q a ρ' → Q' a ρ') : wpM Z m ρ Q' := by
  unfold wpM at *
  cases q : m ρ with
  | ok a ρ' => rw [q] at h; exact w a ρ' h
  | exc e ρ' => rw [q] at h; exact h
  | stuck => rw [q] at h; exact h
theorem wpM.imp {m : M α} {Z' : Exn → List Slot → Prop} {Q' : α → List Slot → Prop} (h : wpM Z m ρ Q) (z : ∀ e ρ', Z e ρ' → Z' e ρ') (w : ∀ a ρ', Q a ρ' → Q' a ρ') : wpM Z' m ρ Q' := by
  unfold wpM at *
  cases q : m ρ with
  | ok a ρ' => rw [q] at h; exact w a ρ' h
  | exc e ρ' => rw [q] at h; exact z e ρ' h
  | stuck => rw [q] at h; exact h
theorem wpM.ok {m : M α} (h : wpM noX m ρ Q) : ∃ a ρ', m ρ = .ok a ρ' ∧ Q a ρ' := by
  unfold wpM at h
  cases q : m ρ with
  | ok a ρ' => rw [q] at h; exact ⟨a, ρ', rfl, h⟩
  | exc e ρ' => rw [q] at h; exact h.elim
  | stuck => rw [q] at h; exact h.elim
theorem wpM.of_ok {m : M α} (h : ∃ a ρ', m ρ = .ok a ρ' ∧ Q a ρ') : wpM Z m ρ Q := by
  obtain ⟨a, ρ', e, q⟩ := h
  exact (wp_ok1 e).mpr q
theorem wpF.mono {S : FSem} {as : List Slot} {kw : List (Str × D)} {Q Q' : Rv → List Slot → Prop} (h : wpF Z S as kw Q) (w : ∀ a ρ', Q a ρ' → Q' a ρ') : wpF Z S as kw Q' := by
  unfold wpF at *
  cases q : S as kw with
  | ok a ρ' => rw [q] at h; exact w a ρ' h
  | exc e ρ' => rw [q] at h; exact h
  | stuck => rw [q] at h; exact h
theorem wp_ok0 {a : α} {ρ1 ρ' : List Slot} {f : List Slot → Res α} (h : f ρ1 = .ok a ρ') : wpM Z f ρ1 Q ↔ Q a ρ' := by unfold wpM; rw [h]
theorem wp_ex0 {e : Exn} {ρ1 ρ' : List Slot} {f : List Slot → Res α} (h : f ρ1 = .exc e ρ') : wpM Z f ρ1 Q ↔ Z e ρ' := by unfold wpM; rw [h]
theorem wp_no {ρ1 : List Slot} {f : List Slot → Res α} (h : f ρ1 = .stuck) : wpM Z f ρ1 Q ↔ False := by unfold wpM; rw [h]
theorem wp_same {f g : List Slot → Res α} {ρ1 : List Slot} (h : f ρ1 = g ρ1) : wpM Z f ρ1 Q ↔ wpM Z g ρ1 Q := by unfold wpM; rw [h]
@[simp] theorem wp_pure {a : α} : wpM Z (M.pure a) ρ Q ↔ Q a ρ := wp_ok0 rfl
@[simp] theorem wp_ok {a : α} {ρ' : List Slot} : wpM Z (fun _ => .ok a ρ') ρ Q ↔ Q a ρ' := wp_ok0 rfl
@[simp] theorem wp_stuck : wpM Z (stuckM : M α) ρ Q ↔ False := wp_no rfl
@[simp] theorem wp_bind {m : M β} {f : β → M α} : wpM Z (M.bind m f) ρ Q ↔ wpM Z m ρ fun b ρ' => wpM Z (f b) ρ' Q := by
  unfold wpM M.bind
  cases m ρ <;> rfl
theorem wp_lift {o : Option α} : wpM Z (lift o) ρ Q ↔ ∃ a, o = some a ∧ Q a ρ := by
  cases o with
  | some a => rw [wp_ok0 (f := lift (some a)) (a := a) rfl]; exact ⟨fun q => ⟨a, rfl, q⟩, fun ⟨_, e, q⟩ => (by cases e; exact q)⟩
  | none => rw [wp_no (f := lift (none : Option α)) rfl]; exact ⟨fun q => q.elim, fun ⟨_, e, _⟩ => (nomatch e)⟩
theorem wp_ite {c : Prop} [Decidable c] {m n : M α} : wpM Z (if c then m else n) ρ Q ↔ (c → wpM Z m ρ Q) ∧ (¬ c → wpM Z n ρ Q) := by
  by_cases h : c <;> simp [h]
variable {QD : D → List Slot → Prop} {QR : Rv → List Slot → Prop} {QU : Unit → List Slot → Prop} {QF : Fl → List Slot → Prop}
theorem wp_peek {r : Rv} : wpM Z (peek r) ρ QD ↔ ∃ d, cont ρ r = some d ∧ QD d ρ := by
  cases z : cont ρ r with
  | some d => rw [wp_ok0 (a := d) (ρ' := ρ) (by unfold peek; rw [z])]; exact ⟨fun q => ⟨d, rfl, q⟩, fun ⟨_, e, q⟩ => by cases e; exact q⟩
  | none => rw [wp_no (by unfold peek; rw [z])]; exact ⟨fun q => q.elim, fun ⟨_, e, _⟩ => nomatch e⟩
theorem wp_peekV {d : D} : wpM Z (peek (.val d)) ρ QD ↔ QD d ρ := by rw [wp_peek]; simp [cont]
theorem wp_peekF {m : Mv} : wpM Z (peek (.fr m)) ρ QD ↔ QD m.d ρ := by rw [wp_peek]; simp [cont]
@[simp] theorem wp_frzV {d : D} : wpM Z (frz (.val d)) ρ QD ↔ QD d ρ := wp_ok0 rfl
@[simp] theorem wp_frzF {m : Mv} : wpM Z (frz (.fr m)) ρ QD ↔ QD m.d ρ := wp_ok0 rfl
/-- what a slot gives -/
def slotQ (i : Nat) (ρ : List Slot) (Q : Rv → List Slot → Prop) : Option Slot → Prop
  | some (.val d) => Q (.val d) ρ
  | some (.st t) => Q (.st t) ρ
  | some (.own _ _) => Q (.bor i) ρ
  | _ => False
@[simp] theorem wp_var {Φ : Env'} {i : Nat} : wpM Z (evE Φ (.var i)) ρ QR ↔ slotQ i ρ QR ρ[i]? := by
  rw [evE]
  cases q : ρ[i]? with
  | none => exact wp_no (by simp [q])
  | some s =>
    cases s with
    | non => exact wp_no (by simp [q])
    | val d => exact wp_ok0 (by simp [q])
    | st t => exact wp_ok0 (by simp [q])
    | own pin m => exact wp_ok0 (by simp [q])
@[simp] theorem wp_storeS {i : Nat} {t : Still} : wpM Z (store i (.st t)) ρ QU ↔ isPin ρ[i]? = false ∧ QU () (ρ.set i (.st t)) := by
  cases q : isPin ρ[i]? with
  | true => rw [wp_no (by unfold store; simp [q])]; simp
  | false => rw [wp_ok0 (a := ()) (ρ' := ρ.set i (.st t)) (by unfold store; simp [q])]; simp
@[simp] theorem wp_storeV {i : Nat} {d : D} : wpM Z (store i (.val d)) ρ QU ↔ isPin ρ[i]? = false ∧ QU () (ρ.set i (.val d)) := by
  cases q : isPin ρ[i]? with
  | true => rw [wp_no (by rw [store_val]; simp [q])]; simp
  | false => rw [wp_ok0 (a := ()) (ρ' := ρ.set i (.val d)) (by rw [store_val]; simp [q])]; simp
@[simp] theorem wp_storeF {i : Nat} {m : Mv} : wpM Z (store i (.fr m)) ρ QU ↔ isPin ρ[i]? = false ∧ QU () (ρ.set i (.own none m)) := by
  cases q : isPin ρ[i]? with
  | true => rw [wp_no (by unfold store; simp [q])]; simp
  | false => rw [wp_ok0 (a := ()) (ρ' := ρ.set i (.own none m)) (by unfold store; simp [q])]; simp
@[simp] theorem wp_storeB {i j : Nat} : wpM Z (store i (.bor j)) ρ QU ↔ isPin ρ[i]? = false ∧ wpM Z (frz (.bor j)) ρ fun d ρ' => isPin ρ'[i]? = false ∧ QU () (ρ'.set i (.val d)) := by
  cases h : isPin ρ[i]? with
  | true => rw [wp_no (by unfold store; simp [h])]; simp
  | false =>
    cases q : frz (.bor j) ρ with
    | exc e ρ' => exact (frz_noexc q).elim
    | stuck =>
      rw [wp_no (f := frz (.bor j)) (by rw [q]), wp_no (by unfold store; simp [h, q])]
      simp
    | ok d ρ' =>
      rw [wp_ok0 (f := frz (.bor j)) q]
      cases z : isPin ρ'[i]? with
      | true => rw [wp_no (by unfold store; simp [h, q, z])]; simp
      | false => rw [wp_ok0 (a := ()) (ρ' := ρ'.set i (.val d)) (by unfold store; simp [h, q, z])]; simp
def frzQ (i : Nat) (ρ : List Slot) (Q : D → List Slot → Prop) : Option Slot → Prop
  | some (.val d) => Q d ρ
  | some (.own none m) => Q m.d (ρ.set i (.val m.d))
  | _ => False
@[simp] theorem wp_frzB {i : Nat} : wpM Z (frz (.bor i)) ρ QD ↔ frzQ i ρ QD ρ[i]? := by
  cases q : ρ[i]? with
  | none => exact wp_no (by unfold frz; simp [q])
  | some s =>
    cases s with
    | non => exact wp_no (by unfold frz; simp [q])
    | st t => exact wp_no (by unfold frz; simp [q])
    | val d => exact wp_ok0 (by unfold frz; simp [q])
    | own pin m =>
      cases pin with
      | none => exact wp_ok0 (by unfold frz; simp [q])
      | some k => exact wp_no (by unfold frz; simp [q])
/-! ### calls -/
theorem wp_call {S : FSem} {rs : List Rv} {ks : List Str} {ds : List D} (h1 : borNodup ρ rs = true) {as : List Slot} (h2 : argsOf ρ 0 rs = some as) (h3 : wpF (fun e as' => ∃ ρ', backOf rs as' ρ = some ρ' ∧ Z e ρ') S as (ks.zip ds) fun r as' => ∃ ρ', backOf rs as' ρ = some ρ' ∧ (∀ i, r ≠ .bor i) ∧ QR r ρ') : wpM Z (callM S rs ks ds) ρ QR := by
  unfold wpF at h3
  unfold wpM callM
  simp only [h1, h2]
  cases q : S as (ks.zip ds) with
  | ok r as' =>
    rw [q] at h3
    obtain ⟨ρ', hb, hn, q2⟩ := h3
    simp only [hb]
    exact q2
  | exc e as' =>
    rw [q] at h3
    obtain ⟨ρ', hb, q2⟩ := h3
    simp only [hb]
    exact q2
  | stuck => rw [q] at h3; exact h3.elim
end
end PV
set_option Elab.async false
set_option linter.all false
set_option autoImplicit false
set_option maxRecDepth 100000
set_option maxHeartbeats 4000000
/-! PV: reckoning by forms. -/
namespace PV
open PySem PySem.Spec PyProof.Rows L2
/-- the content of a value at hand -/
def pk (r : Rv) (ρ : List Slot) (K : D → Prop) : Prop := ∃ d, cont ρ r = some d ∧ K d
def pkS (o : Option Slot) (K : D → Prop) : Prop := match o with
  | some (.val d) => K d
  | some (.own _ m) => K m.d
  | _ => False
section
variable {Z : Exn → List Slot → Prop} {Φ : Env'} {ρ : List Slot} {Q : Rv → List Slot → Prop} {K : D → Prop}
@[simp] theorem pk_val {d : D} : pk (.val d) ρ K ↔ K d := by simp [pk, cont]
@[simp] theorem pk_fr {m : Mv} : pk (.fr m) ρ K ↔ K m.d := by simp [pk, cont]
@[simp] theorem pk_bor {i : Nat} : pk (.bor i) ρ K ↔ pkS ρ[i]? K := by
  unfold pk
  simp only [cont]
  cases ρ[i]? with
  | none => simp [pkS]
  | some s => cases s <;> simp [pkS]
@[simp] theorem pkS_val {d : D} : pkS (some (.val d)) K ↔ K d := Iff.rfl
@[simp] theorem pkS_own {p : Option Nat} {m : Mv} : pkS (some (.own p m)) K ↔ K m.d := Iff.rfl
@[simp] theorem md_lst {xs : List D} : (Mv.lst xs).d = .list xs := rfl
@[simp] theorem slotQ_val {i : Nat} {d : D} : slotQ i ρ Q (some (.val d)) ↔ Q (.val d) ρ := Iff.rfl
@[simp] theorem slotQ_st {i : Nat} {t : Still} : slotQ i ρ Q (some (.st t)) ↔ Q (.st t) ρ := Iff.rfl
@[simp] theorem slotQ_own {i : Nat} {p : Option Nat} {m : Mv} : slotQ i ρ Q (some (.own p m)) ↔ Q (.bor i) ρ := Iff.rfl
@[simp] theorem frzQ_val {i : Nat} {d : D} {R : D → List Slot → Prop} : frzQ i ρ R (some (.val d)) ↔ R d ρ := Iff.rfl
@[simp] theorem frzQ_own {i : Nat} {m : Mv} {R : D → List Slot → Prop} : frzQ i ρ R (some (.own none m)) ↔ R m.d (ρ.set i (.val m.d)) := Iff.rfl
@[simp] theorem wp_pk {r : Rv} {R : D → List Slot → Prop} : wpM Z (peek r) ρ R ↔ pk r ρ fun d => R d ρ := wp_peek
/-! ### expressions -/
@[simp] theorem ev_int {i : Int} : wpM Z (evE Φ (.cst (.int i))) ρ Q ↔ Q (.val (.int i)) ρ := by rw [evE]; unfold val1; simp [wp_lift, cD]
@[simp] theorem ev_bool {i : Bool} : wpM Z (evE Φ (.cst (.bool i))) ρ Q ↔ Q (.val (.bool i)) ρ := by rw [evE]; unfold val1; simp [wp_lift, cD]
@[simp] theorem ev_str {i : Str} : wpM Z (evE Φ (.cst (.str i))) ρ Q ↔ Q (.val (.str i)) ρ := by rw [evE]; unfold val1; simp [wp_lift, cD]
@[simp] theorem ev_none : wpM Z (evE Φ (.cst .none)) ρ Q ↔ Q (.val .none) ρ := by rw [evE]; unfold val1; simp [wp_lift, cD]
@[simp] theorem ev_tab {x : Str} {a : Ex} : wpM Z (evE Φ (.tab x a)) ρ Q ↔ ∃ kvs, Φ.tb x = some kvs ∧ wpM Z (evE Φ a) ρ fun r ρ1 => pk r ρ1 fun d => wpM Z (tabV kvs d) ρ1 Q := by
  rw [evE]
  cases q : Φ.tb x with
  | none => simp
  | some kvs => simp
@[simp] theorem ev_glob {x : Str} : wpM Z (evE Φ (.glob x)) ρ Q ↔ ∃ d, Φ.gc x = some d ∧ Q (.val d) ρ := by rw [evE]; unfold val1; simp [wp_lift]
@[simp] theorem wp_bin2 {α : Type} {a b : M Rv} {f : D → D → M α} {R : α → List Slot → Prop} : wpM Z (bin2 a b f) ρ R ↔ wpM Z a ρ fun x ρ1 => wpM Z b ρ1 fun y ρ2 => pk x ρ2 fun dx => pk y ρ2 fun dy => wpM Z (f dx dy) ρ2 R := by unfold bin2; simp
@[simp] theorem ev_bin {o : BO} {a b : Ex} : wpM Z (evE Φ (.bin o a b)) ρ Q ↔ wpM Z (evE Φ a) ρ fun x ρ1 => wpM Z (evE Φ b) ρ1 fun y ρ2 => pk x ρ2 fun dx => pk y ρ2 fun dy => wpM Z (lift (binV o dx dy)) ρ2 Q := by rw [evE]; simp
@[simp] theorem ev_neg {a : Ex} : wpM Z (evE Φ (.neg a)) ρ Q ↔ wpM Z (evE Φ a) ρ fun x ρ1 => pk x ρ1 fun d => ∃ i, d = .int i ∧ Q (.val (.int (-i))) ρ1 := by
  rw [evE]
  simp only [wp_bind, wp_pk]
  have e : ∀ (d : D) ρ1, wpM Z (match d with | .int i => M.pure (.val (.int (-i))) | _ => stuckM) ρ1 Q ↔ ∃ i, d = .int i ∧ Q (.val (.int (-i))) ρ1 := fun d ρ1 => by cases d <;> simp
  refine iff_of_eq ?_
  congr 1
  funext x ρ1
  congr 1
  funext d
  exact propext (e d ρ1)
@[simp] theorem ev_cmp {o : CO} {a b : Ex} : wpM Z (evE Φ (.cmp o a b)) ρ Q ↔ wpM Z (evE Φ a) ρ fun x ρ1 => wpM Z (evE Φ b) ρ1 fun y ρ2 => pk x ρ2 fun dx => pk y ρ2 fun dy => wpM Z (lift (cmpV o dx dy)) ρ2 fun k ρ3 => Q (.val (.bool k)) ρ3 := by rw [evE]; simp
@[simp] theorem ev_notv {a : Ex} : wpM Z (evE Φ (.notv a)) ρ Q ↔ wpM Z (evE Φ a) ρ fun x ρ1 => pk x ρ1 fun d => wpM Z (lift (truV d)) ρ1 fun k ρ2 => Q (.val (.bool (!k))) ρ2 := by rw [evE]; simp
@[simp] theorem ev_idx {a b : Ex} : wpM Z (evE Φ (.idx a b)) ρ Q ↔ wpM Z (evE Φ a) ρ fun x ρ1 => wpM Z (evE Φ b) ρ1 fun y ρ2 => pk x ρ2 fun dx => pk y ρ2 fun dy => wpM Z (lift (idxV dx dy)) ρ2 fun d ρ3 => Q (.val d) ρ3 := by rw [evE]; simp [val1]
@[simp] theorem ev_es0 {R : List Rv → List Slot → Prop} : wpM Z (evEs Φ .nil) ρ R ↔ R [] ρ := by rw [evEs]; simp
@[simp] theorem ev_ess {e : Ex} {es : Exs} {R : List Rv → List Slot → Prop} : wpM Z (evEs Φ (.star e es)) ρ R ↔ wpM Z (evE Φ e) ρ fun r ρ1 => pk r ρ1 fun d => wpM Z (lift (seqD d)) ρ1 fun q ρ1 => wpM Z (evEs Φ es) ρ1 fun rs ρ2 => R (q.2.map Rv.val ++ rs) ρ2 := by rw [evEs]; simp
@[simp] theorem ev_es1 {e : Ex} {es : Exs} {R : List Rv → List Slot → Prop} : wpM Z (evEs Φ (.cons e es)) ρ R ↔ wpM Z (evE Φ e) ρ fun r ρ1 => wpM Z (evEs Φ es) ρ1 fun rs ρ2 => R (r :: rs) ρ2 := by rw [evEs]; simp
@[simp] theorem ev_k0 {R : List Rv → List Slot → Prop} : wpM Z (evK Φ .nil) ρ R ↔ R [] ρ := by rw [evK]; simp
@[simp] theorem ev_k1 {k : Str} {e : Ex} {es : Kws} {R : List Rv → List Slot → Prop} : wpM Z (evK Φ (.cons k e es)) ρ R ↔ wpM Z (evE Φ e) ρ fun r ρ1 => wpM Z (evK Φ es) ρ1 fun rs ρ2 => R (r :: rs) ρ2 := by rw [evK]; simp
@[simp] theorem wp_frzs0 {R : List D → List Slot → Prop} : wpM Z (frzs []) ρ R ↔ R [] ρ := by simp [frzs]
@[simp] theorem wp_frzs1 {r : Rv} {rs : List Rv} {R : List D → List Slot → Prop} : wpM Z (frzs (r :: rs)) ρ R ↔ wpM Z (frz r) ρ fun d ρ1 => wpM Z (frzs rs) ρ1 fun ds ρ2 => R (d :: ds) ρ2 := by simp [frzs]
@[simp] theorem wp_peeks0 {R : List D → List Slot → Prop} : wpM Z (peeks []) ρ R ↔ R [] ρ := by simp [peeks]
@[simp] theorem wp_peeks1 {r : Rv} {rs : List Rv} {R : List D → List Slot → Prop} : wpM Z (peeks (r :: rs)) ρ R ↔ pk r ρ fun d => wpM Z (peeks rs) ρ fun ds ρ2 => R (d :: ds) ρ2 := by simp [peeks]
theorem wp_guard {α : Type} {c : Bool} {m : M α} {R : α → List Slot → Prop} : wpM Z (if c = true then m else stuckM) ρ R ↔ c = true ∧ wpM Z m ρ R := by cases c <;> simp
@[simp] theorem ev_tup {es : Exs} : wpM Z (evE Φ (.tup es)) ρ Q ↔ wpM Z (evEs Φ es) ρ fun rs ρ1 => wpM Z (frzs rs) ρ1 fun ds ρ2 => fitsL ds.length = true ∧ Q (.val (.tuple ds)) ρ2 := by rw [evE]; simp [wp_guard]
@[simp] theorem ev_lst {es : Exs} : wpM Z (evE Φ (.lst es)) ρ Q ↔ wpM Z (evEs Φ es) ρ fun rs ρ1 => wpM Z (frzs rs) ρ1 fun ds ρ2 => fitsL ds.length = true ∧ Q (.fr (.lst ds)) ρ2 := by rw [evE]; simp [wp_guard]
@[simp] theorem ev_rep {es : Exs} {k : Ex} : wpM Z (evE Φ (.rep es k)) ρ Q ↔ wpM Z (evEs Φ es) ρ fun rs ρ1 => wpM Z (frzs rs) ρ1 fun ds ρ2 => fitsL ds.length = true ∧ wpM Z (evE Φ k) ρ2 fun r ρ3 => pk r ρ3 fun d => wpM Z (repM ds d) ρ3 Q := by rw [evE]; simp [wp_guard]
@[simp] theorem wp_repM {ds : List D} {k : Int} : wpM Z (repM ds (.int k)) ρ Q ↔ (decide (-(2 ^ 63) ≤ k) && decide (k < 2 ^ 63) && fitsL (ds.length * k.toNat)) = true ∧ Q (.fr (.lst (List.replicate k.toNat ds).flatten)) ρ := by unfold repM; exact wp_guard.trans (and_congr Iff.rfl wp_pure)
@[simp] theorem ev_bi {b : BI} {es : Exs} : wpM Z (evE Φ (.bi b es)) ρ Q ↔ wpM Z (evEs Φ es) ρ fun rs ρ1 => wpM Z (peeks rs) ρ1 fun ds ρ2 => wpM Z (lift (biV b ds)) ρ2 Q := by rw [evE]; simp
@[simp] theorem ev_isa {e : Ex} {c : Cl} : wpM Z (evE Φ (.isa e c)) ρ Q ↔ wpM Z (evE Φ e) ρ fun r ρ1 => pk r ρ1 fun d => Q (.val (.bool (isaV d c))) ρ1 := by rw [evE]; simp
@[simp] theorem ev_isas {e : Ex} {cs : List Cl} : wpM Z (evE Φ (.isas e cs)) ρ Q ↔ wpM Z (evE Φ e) ρ fun r ρ1 => pk r ρ1 fun d => Q (.val (.bool (cs.any (isaV d)))) ρ1 := by rw [evE]; simp
@[simp] theorem ev_ife {t : Te} {a b : Ex} : wpM Z (evE Φ (.ife t a b)) ρ Q ↔ wpM Z (evT Φ t) ρ fun k ρ1 => (k = true → wpM Z (evE Φ a) ρ1 Q) ∧ (k = false → wpM Z (evE Φ b) ρ1 Q) := by
  rw [evE]; simp [wp_ite]
@[simp] theorem ev_andv {a b : Ex} : wpM Z (evE Φ (.andv a b)) ρ Q ↔ wpM Z (evE Φ a) ρ fun r ρ1 => pk r ρ1 fun d => wpM Z (lift (truV d)) ρ1 fun k ρ2 => (k = true → wpM Z (evE Φ b) ρ2 Q) ∧ (k = false → Q r ρ2) := by
  rw [evE]; simp [wp_ite]
@[simp] theorem ev_orv {a b : Ex} : wpM Z (evE Φ (.orv a b)) ρ Q ↔ wpM Z (evE Φ a) ρ fun r ρ1 => pk r ρ1 fun d => wpM Z (lift (truV d)) ρ1 fun k ρ2 => (k = true → Q r ρ2) ∧ (k = false → wpM Z (evE Φ b) ρ2 Q) := by
  rw [evE]; simp [wp_ite]
@[simp] theorem ev_chain {o o' : CO} {a b c : Ex} : wpM Z (evE Φ (.chain o o' a b c)) ρ Q ↔ wpM Z (evE Φ a) ρ fun x ρ1 => wpM Z (evE Φ b) ρ1 fun y ρ2 => pk x ρ2 fun dx => pk y ρ2 fun dy => wpM Z (lift (cmpV o dx dy)) ρ2 fun k ρ3 =>
    (k = true → wpM Z (evE Φ c) ρ3 fun z ρ4 => pk y ρ4 fun dy => pk z ρ4 fun dz => wpM Z (lift (cmpV o' dy dz)) ρ4 fun k ρ5 => Q (.val (.bool k)) ρ5) ∧ (k = false → Q (.val (.bool false)) ρ3) := by
  rw [evE]; simp [wp_ite]
@[simp] theorem ev_no {R : Option Int → List Slot → Prop} : wpM Z (evO Φ .no) ρ R ↔ R none ρ := by rw [evO]; simp
@[simp] theorem ev_yes {e : Ex} {R : Option Int → List Slot → Prop} : wpM Z (evO Φ (.yes e)) ρ R ↔ wpM Z (evE Φ e) ρ fun r ρ1 => pk r ρ1 fun d => ∃ i, d = .int i ∧ R (some i) ρ1 := by
  rw [evO]
  simp only [wp_bind, wp_pk]
  have e : ∀ (d : D) ρ1, wpM Z (match d with | .int i => M.pure (some i) | _ => stuckM) ρ1 R ↔ ∃ i, d = .int i ∧ R (some i) ρ1 := fun d ρ1 => by cases d <;> simp
  refine iff_of_eq ?_
  congr 1
  funext x ρ1
  congr 1
  funext d
  exact propext (e d ρ1)
@[simp] theorem ev_slc {a : Ex} {lo hi : Op} : wpM Z (evE Φ (.slc a lo hi)) ρ Q ↔ wpM Z (evE Φ a) ρ fun x ρ1 => wpM Z (evO Φ lo) ρ1 fun l ρ2 => wpM Z (evO Φ hi) ρ2 fun h ρ3 => pk x ρ3 fun d => wpM Z (lift (slcV d l h)) ρ3 Q := by rw [evE]; simp
@[simp] theorem ev_stp {a : Ex} {lo hi st : Op} : wpM Z (evE Φ (.stp a lo hi st)) ρ Q ↔ wpM Z (evE Φ a) ρ fun x ρ1 => wpM Z (evO Φ lo) ρ1 fun l ρ2 => wpM Z (evO Φ hi) ρ2 fun h ρ3 => wpM Z (evO Φ st) ρ3 fun t ρ4 => pk x ρ4 fun d => wpM Z (lift (stpV d l h t)) ρ4 Q := by rw [evE]; simp
@[simp] theorem ev_sset {a : Ex} : wpM Z (evE Φ (.sset a)) ρ Q ↔ wpM Z (evE Φ a) ρ fun x ρ1 => pk x ρ1 fun d => wpM Z (lift (ssetV d)) ρ1 Q := by rw [evE]; simp
@[simp] theorem ev_lset {a : Ex} : wpM Z (evE Φ (.lset a)) ρ Q ↔ wpM Z (evE Φ a) ρ fun x ρ1 => pk x ρ1 fun d => wpM Z (lift (lsetV d)) ρ1 Q := by rw [evE]; simp
@[simp] theorem ev_revl {a : Ex} : wpM Z (evE Φ (.revl a)) ρ Q ↔ wpM Z (evE Φ a) ρ fun x ρ1 => pk x ρ1 fun d => ∃ xs, d = .list xs ∧ Q (.fr (.lst xs.reverse)) ρ1 := by
  rw [evE]
  simp only [wp_bind, wp_pk]
  have e : ∀ (d : D) ρ1, wpM Z (match d with | .list xs => M.pure (.fr (.lst xs.reverse)) | _ => stuckM) ρ1 Q ↔ ∃ xs, d = .list xs ∧ Q (.fr (.lst xs.reverse)) ρ1 := fun d ρ1 => by cases d <;> simp
  refine iff_of_eq ?_
  congr 1
  funext x ρ1
  congr 1
  funext d
  exact propext (e d ρ1)
@[simp] theorem ev_call {f : Str} {S : FSem} {es : Exs} {ks : Kws} (h : Φ.fn f = some S) : wpM Z (evE Φ (.call f es ks)) ρ Q ↔ wpM Z (evEs Φ es) ρ fun rs ρ1 => wpM Z (evK Φ ks) ρ1 fun zs ρ2 => wpM Z (lift (valsOf zs)) ρ2 fun ds ρ3 => wpM Z (callM S rs (Kws.names ks) ds) ρ3 Q := by
  rw [evE, h]; simp
@[simp] theorem ev_me {m : Me} {i : Nat} {es : Exs} : wpM Z (evE Φ (.me m i es)) ρ Q ↔ isOwnL ρ[i]? = true ∧ wpM Z (evEs Φ es) ρ fun rs ρ1 => wpM Z (frzs rs) ρ1 fun ds ρ2 => wpM Z (meM m i ds) ρ2 Q := by
  rw [evE]
  cases h : isOwnL ρ[i]? with
  | true =>
    have e : (fun ρ => if isOwnL ρ[i]? = true then (M.bind (evEs Φ es) fun rs => M.bind (frzs rs) fun ds => meM m i ds) ρ else .stuck) ρ = (M.bind (evEs Φ es) fun rs => M.bind (frzs rs) fun ds => meM m i ds) ρ := by simp [h]
    rw [wp_same e]
    simp
  | false => rw [wp_no (by simp [h])]; simp
def meQ (m : Me) (i : Nat) (ds : List D) (ρ : List Slot) (Q : Rv → List Slot → Prop) (o : Option Slot) : Prop := match o with
  | some (.own pin mv) => ∃ d mv', meV m mv ds = some (d, mv') ∧ Q (.val d) (ρ.set i (.own pin mv'))
  | _ => False
@[simp] theorem wp_me {m : Me} {i : Nat} {ds : List D} : wpM Z (meM m i ds) ρ Q ↔ meQ m i ds ρ Q ρ[i]? := by
  cases q : ρ[i]? with
  | none => exact wp_no (by unfold meM; simp [q])
  | some s =>
    cases s with
    | non => exact wp_no (by unfold meM; simp [q])
    | st t => exact wp_no (by unfold meM; simp [q])
    | val d => exact wp_no (by unfold meM; simp [q])
    | own pin mv =>
      unfold meQ
      cases z : meV m mv ds with
      | none => rw [wp_no (by unfold meM; simp [q, z])]; simp [z]
      | some p =>
        obtain ⟨d, mv'⟩ := p
        rw [wp_ok0 (a := .val d) (ρ' := ρ.set i (.own pin mv')) (by unfold meM; simp [q, z])]
        exact ⟨fun h => ⟨d, mv', z, h⟩, fun ⟨_, _, e, h⟩ => by rw [z] at e; cases e; exact h⟩
@[simp] theorem meQ_own {m : Me} {i : Nat} {ds : List D} {pin : Option Nat} {mv : Mv} : meQ m i ds ρ Q (some (.own pin mv)) ↔ ∃ d mv', meV m mv ds = some (d, mv') ∧ Q (.val d) (ρ.set i (.own pin mv')) := Iff.rfl
@[simp] theorem ev_lstRg {it : Itr'} : wpM Z (evE Φ (.lstRg it)) ρ Q ↔ wpM Z (evI Φ it) ρ fun w ρ1 => fitsL w.items.length = true ∧ Q (.fr (.lst w.items)) ρ1 := by rw [evE]; simp [wp_guard]
@[simp] theorem ev_dm {m : DM} {a : Ex} {es : Exs} : wpM Z (evE Φ (.dm m a es)) ρ Q ↔ wpM Z (evE Φ a) ρ fun r ρ1 => pk r ρ1 fun d => dmTy m d = true ∧ wpM Z (evEs Φ es) ρ1 fun rs ρ2 => wpM Z (peeks (r :: rs)) ρ2 fun ds ρ3 => wpM Z (lift (dmV m ds)) ρ3 Q := by rw [evE]; simp [wp_guard]
@[simp] theorem ev_tupRg {it : Itr'} : wpM Z (evE Φ (.tupRg it)) ρ Q ↔ wpM Z (evI Φ it) ρ fun w ρ1 => fitsL w.items.length = true ∧ Q (.val (.tuple w.items)) ρ1 := by rw [evE]; simp [wp_guard]
@[simp] theorem ev_frz {e : Ex} : wpM Z (evE Φ (.frz e)) ρ Q ↔ wpM Z (evE Φ e) ρ fun r ρ1 => wpM Z (frz r) ρ1 fun d ρ2 => Q (.val d) ρ2 := by rw [evE]; simp
@[simp] theorem ev_dnew : wpM Z (evE Φ .dnew) ρ Q ↔ Q (.fr (.dct [])) ρ := by rw [evE]; simp
/-! ### tests -/
variable {T : Bool → List Slot → Prop}
@[simp] theorem et_cmp {o : CO} {a b : Ex} : wpM Z (evT Φ (.cmp o a b)) ρ T ↔ wpM Z (evE Φ a) ρ fun x ρ1 => wpM Z (evE Φ b) ρ1 fun y ρ2 => pk x ρ2 fun dx => pk y ρ2 fun dy => wpM Z (lift (cmpV o dx dy)) ρ2 T := by rw [evT]; simp
@[simp] theorem et_chain {o o' : CO} {a b c : Ex} : wpM Z (evT Φ (.chain o o' a b c)) ρ T ↔ wpM Z (evE Φ a) ρ fun x ρ1 => wpM Z (evE Φ b) ρ1 fun y ρ2 => pk x ρ2 fun dx => pk y ρ2 fun dy => wpM Z (lift (cmpV o dx dy)) ρ2 fun k ρ3 =>
    (k = true → wpM Z (evE Φ c) ρ3 fun z ρ4 => pk y ρ4 fun dy => pk z ρ4 fun dz => wpM Z (lift (cmpV o' dy dz)) ρ4 T) ∧ (k = false → T false ρ3) := by
  rw [evT]; simp [wp_ite]
@[simp] theorem et_and {ts : Tes} : wpM Z (evT Φ (.and ts)) ρ T ↔ wpM Z (evAnd Φ ts) ρ T := by rw [evT]
@[simp] theorem et_or {ts : Tes} : wpM Z (evT Φ (.or ts)) ρ T ↔ wpM Z (evOr Φ ts) ρ T := by rw [evT]
@[simp] theorem et_not {t : Te} : wpM Z (evT Φ (.not t)) ρ T ↔ wpM Z (evT Φ t) ρ fun k ρ1 => T (!k) ρ1 := by rw [evT]; simp
@[simp] theorem et_val {e : Ex} : wpM Z (evT Φ (.val e)) ρ T ↔ wpM Z (evE Φ e) ρ fun r ρ1 => pk r ρ1 fun d => wpM Z (lift (truV d)) ρ1 T := by rw [evT]; simp
@[simp] theorem et_and0 : wpM Z (evAnd Φ .nil) ρ T ↔ T true ρ := by rw [evAnd]; simp
@[simp] theorem et_and1 {t : Te} {ts : Tes} : wpM Z (evAnd Φ (.cons t ts)) ρ T ↔ wpM Z (evT Φ t) ρ fun k ρ1 => (k = true → wpM Z (evAnd Φ ts) ρ1 T) ∧ (k = false → T false ρ1) := by rw [evAnd]; simp [wp_ite]
@[simp] theorem et_or0 : wpM Z (evOr Φ .nil) ρ T ↔ T false ρ := by rw [evOr]; simp
@[simp] theorem et_or1 {t : Te} {ts : Tes} : wpM Z (evOr Φ (.cons t ts)) ρ T ↔ wpM Z (evT Φ t) ρ fun k ρ1 => (k = true → T true ρ1) ∧ (k = false → wpM Z (evOr Φ ts) ρ1 T) := by rw [evOr]; simp [wp_ite]
/-! ### what is walked -/
variable {RW : Walked → List Slot → Prop}
def walkQ (r : Rv) (ρ : List Slot) (RW : Walked → List Slot → Prop) : Prop := ∃ d xs, cont ρ r = some d ∧ itemsOf d = some xs ∧ RW ⟨xs, lockOf ρ r⟩ ρ
@[simp] theorem ei_ex {e : Ex} : wpM Z (evI Φ (.ex e)) ρ RW ↔ wpM Z (evE Φ e) ρ fun r ρ1 => walkQ r ρ1 RW := by
  rw [evI]
  simp only [wp_bind]
  have : ∀ r ρ1, wpM Z (walkM r) ρ1 RW ↔ walkQ r ρ1 RW := fun r ρ1 => by
    unfold walkQ
    cases h : cont ρ1 r with
    | none => rw [wp_no (by unfold walkM; simp [h])]; simp
    | some d =>
      cases z : itemsOf d with
      | none => rw [wp_no (by unfold walkM; simp [h, z])]; simp [z]
      | some xs => rw [wp_ok0 (a := ⟨xs, lockOf ρ1 r⟩) (ρ' := ρ1) (by unfold walkM; simp [h, z])]; simp [z]
  simp only [this]
theorem wp_rg {i j : Int} : wpM Z (rgM (.int i) (.int j)) ρ RW ↔ rgOk i j = true ∧ RW ⟨rgD i j, []⟩ ρ := by unfold rgM; simp [wp_guard]
@[simp] theorem ei_rg1 {e : Ex} : wpM Z (evI Φ (.rg1 e)) ρ RW ↔ wpM Z (evE Φ e) ρ fun r ρ1 => pk r ρ1 fun d => ∃ j, d = .int j ∧ rgOk 0 j = true ∧ RW ⟨rgD 0 j, []⟩ ρ1 := by
  rw [evI]
  simp only [wp_bind, wp_pk]
  have e : ∀ (d : D) ρ1, wpM Z (rgM (.int 0) d) ρ1 RW ↔ ∃ j, d = .int j ∧ rgOk 0 j = true ∧ RW ⟨rgD 0 j, []⟩ ρ1 := fun d ρ1 => by cases d <;> first | (rw [wp_rg]; simp) | simp [rgM]
  simp only [e]
@[simp] theorem ei_rg2 {a b : Ex} : wpM Z (evI Φ (.rg2 a b)) ρ RW ↔ wpM Z (evE Φ a) ρ fun x ρ1 => wpM Z (evE Φ b) ρ1 fun y ρ2 => pk x ρ2 fun dx => pk y ρ2 fun dy => ∃ i j, dx = .int i ∧ dy = .int j ∧ rgOk i j = true ∧ RW ⟨rgD i j, []⟩ ρ2 := by
  rw [evI]
  simp only [wp_bin2]
  have e : ∀ (d d' : D) ρ1, wpM Z (rgM d d') ρ1 RW ↔ ∃ i j, d = .int i ∧ d' = .int j ∧ rgOk i j = true ∧ RW ⟨rgD i j, []⟩ ρ1 := fun d d' ρ1 => by cases d <;> cases d' <;> first | (rw [wp_rg]; simp) | simp [rgM]
  simp only [e]
@[simp] theorem seqD_lst {xs : List D} : seqD (.list xs) = some (false, xs) := rfl
@[simp] theorem seqD_tup {xs : List D} : seqD (.tuple xs) = some (true, xs) := rfl
theorem wp_enumM {r : Rv} : wpM Z (enumM r) ρ RW ↔ ∃ d q, cont ρ r = some d ∧ seqD d = some q ∧ RW ⟨enumD q.2, lockOf ρ r⟩ ρ := by
  cases h : cont ρ r with
  | none => rw [wp_no (by unfold enumM; simp [h])]; simp
  | some d =>
    cases z : seqD d with
    | none => rw [wp_no (by unfold enumM; simp [h, z])]; simp [z]
    | some q => obtain ⟨tp, xs⟩ := q; rw [wp_ok0 (a := ⟨enumD xs, lockOf ρ r⟩) (ρ' := ρ) (by unfold enumM; simp only [h, z]; rfl)]; exact ⟨fun k => ⟨d, (tp, xs), rfl, z, k⟩, fun ⟨d', q, e1, e2, k⟩ => by cases e1; rw [z] at e2; cases e2; exact k⟩
theorem wp_zipM {x y : Rv} : wpM Z (zipM x y) ρ RW ↔ ∃ d q e q', cont ρ x = some d ∧ seqD d = some q ∧ cont ρ y = some e ∧ seqD e = some q' ∧ RW ⟨zipD q.2 q'.2, lockOf ρ x ++ lockOf ρ y⟩ ρ := by
  cases h : cont ρ x with
  | none => rw [wp_no (by unfold zipM; simp [h])]; simp
  | some d =>
    cases h2 : cont ρ y with
    | none => rw [wp_no (by unfold zipM; simp [h, h2])]; simp
    | some e =>
      cases z : seqD d with
      | none => rw [wp_no (by unfold zipM; simp [h, h2, z])]; simp [z]
      | some q =>
        obtain ⟨t1, xs⟩ := q
        cases z2 : seqD e with
        | none => rw [wp_no (by unfold zipM; simp [h, h2, z, z2])]; simp [z2]
        | some q => obtain ⟨t2, ys⟩ := q; rw [wp_ok0 (a := ⟨zipD xs ys, lockOf ρ x ++ lockOf ρ y⟩) (ρ' := ρ) (by unfold zipM; simp only [h, h2, z, z2])]; exact ⟨fun k => ⟨d, (t1, xs), e, (t2, ys), rfl, z, rfl, z2, k⟩, fun ⟨d', q, e', q', e1, e2, e3, e4, k⟩ => by cases e1; cases e3; rw [z] at e2; cases e2; rw [z2] at e4; cases e4; exact k⟩
@[simp] theorem ei_enum {e : Ex} : wpM Z (evI Φ (.enum e)) ρ RW ↔ wpM Z (evE Φ e) ρ fun r ρ1 => ∃ d q, cont ρ1 r = some d ∧ seqD d = some q ∧ RW ⟨enumD q.2, lockOf ρ1 r⟩ ρ1 := by
  rw [evI]
  simp only [wp_bind, wp_enumM]
@[simp] theorem ei_zip {a b : Ex} : wpM Z (evI Φ (.zip a b)) ρ RW ↔ wpM Z (evE Φ a) ρ fun x ρ1 => wpM Z (evE Φ b) ρ1 fun y ρ2 => ∃ d q e q', cont ρ2 x = some d ∧ seqD d = some q ∧ cont ρ2 y = some e ∧ seqD e = some q' ∧ RW ⟨zipD q.2 q'.2, lockOf ρ2 x ++ lockOf ρ2 y⟩ ρ2 := by
  rw [evI]
  simp only [wp_bind, wp_zipM]
theorem wp_rg3 {i j k : Int} : wpM Z (rgM3 (.int i) (.int j) (.int k)) ρ RW ↔ (rgOk i j && decide (k = -1)) = true ∧ RW ⟨rgDn i j, []⟩ ρ := by unfold rgM3; exact wp_guard.trans (and_congr Iff.rfl wp_pure)
@[simp] theorem ei_rg3 {a b c : Ex} : wpM Z (evI Φ (.rg3 a b c)) ρ RW ↔ wpM Z (evE Φ a) ρ fun x ρ1 => wpM Z (evE Φ b) ρ1 fun y ρ2 => wpM Z (evE Φ c) ρ2 fun z ρ3 => pk x ρ3 fun dx => pk y ρ3 fun dy => pk z ρ3 fun dz => wpM Z (rgM3 dx dy dz) ρ3 RW := by
  rw [evI]
  simp only [wp_bind, wp_pk]
end
end PV
set_option Elab.async false
set_option linter.all false
set_option autoImplicit false
set_option maxRecDepth 100000
set_option maxHeartbeats 4000000
/-! PV: reckoning on data, statements, loops, defs. -/
namespace PV
open PySem PySem.Spec PyProof.Rows L2
section
variable {Z : Exn → List Slot → Prop} {ρ : List Slot} {Q : Rv → List Slot → Prop} {T : Bool → List Slot → Prop} {R : D → List Slot → Prop} {α : Type} {U : α → List Slot → Prop}
@[simp] theorem lift_some {a : α} : wpM Z (lift (some a)) ρ U ↔ U a ρ := wp_ok0 rfl
theorem lift_if {c : Prop} [Decidable c] {a : α} : wpM Z (lift (if c then some a else none)) ρ U ↔ c ∧ U a ρ := by
  by_cases h : c <;> simp [h, wp_lift]
/-! ### data -/
@[simp] theorem b_add {i j : Int} : binV .add (.int i) (.int j) = some (.val (.int (i + j))) := rfl
@[simp] theorem b_addb {i : Int} {k : Bool} : binV .add (.int i) (.bool k) = some (.val (.int (i + b2i k))) := rfl
@[simp] theorem b_sub {i j : Int} : binV .sub (.int i) (.int j) = some (.val (.int (i - j))) := rfl
@[simp] theorem b_mul {i j : Int} : wpM Z (lift (binV .mul (.int i) (.int j))) ρ Q ↔ (smallI i || smallI j) = true ∧ Q (.val (.int (i * j))) ρ := by unfold binV; exact lift_if
@[simp] theorem b_fdiv {i j : Int} : wpM Z (lift (binV .fdiv (.int i) (.int j))) ρ Q ↔ (0 < j ∧ j < 1073741824) ∧ Q (.val (.int (i / j))) ρ := by unfold binV; rw [lift_if]; simp
@[simp] theorem b_mod {i j : Int} : wpM Z (lift (binV .mod (.int i) (.int j))) ρ Q ↔ 0 < j ∧ Q (.val (.int (i % j))) ρ := by unfold binV; rw [lift_if]; simp
@[simp] theorem b_pow {i j : Int} : wpM Z (lift (binV .pow (.int i) (.int j))) ρ Q ↔ (0 ≤ j ∧ j ≤ 1000000 ∧ i.natAbs < 2 ^ 64) ∧ Q (.val (.int (i ^ j.toNat))) ρ := by unfold binV; rw [lift_if]; simp [and_assoc]
@[simp] theorem b_addS {x y : Str} : wpM Z (lift (binV .add (.str x) (.str y))) ρ Q ↔ fitsL (x.length + y.length) = true ∧ Q (.val (.str (x ++ y))) ρ := by unfold binV; exact lift_if
@[simp] theorem b_addT {x y : List D} : wpM Z (lift (binV .add (.tuple x) (.tuple y))) ρ Q ↔ fitsL (x.length + y.length) = true ∧ Q (.val (.tuple (x ++ y))) ρ := by unfold binV; exact lift_if
@[simp] theorem b_addL {x y : List D} : wpM Z (lift (binV .add (.list x) (.list y))) ρ Q ↔ fitsL (x.length + y.length) = true ∧ Q (.fr (.lst (x ++ y))) ρ := by unfold binV; exact lift_if
@[simp] theorem i_add {i j : Int} : iopV .add (.int i) (.int j) = some (.int (i + j)) := rfl
@[simp] theorem i_sub {i j : Int} : iopV .sub (.int i) (.int j) = some (.int (i - j)) := rfl
@[simp] theorem i_addS {x y : Str} : wpM Z (lift (iopV .add (.str x) (.str y))) ρ R ↔ fitsL (x.length + y.length) = true ∧ R (.str (x ++ y)) ρ := by unfold iopV; exact lift_if
@[simp] theorem c_lt {i j : Int} : cmpV .lt (.int i) (.int j) = some (decide (i < j)) := rfl
@[simp] theorem c_le {i j : Int} : cmpV .le (.int i) (.int j) = some (decide (i ≤ j)) := rfl
@[simp] theorem c_gt {i j : Int} : cmpV .gt (.int i) (.int j) = some (decide (j < i)) := rfl
@[simp] theorem c_ge {i j : Int} : cmpV .ge (.int i) (.int j) = some (decide (j ≤ i)) := rfl
@[simp] theorem st_revL {xs : List D} {ρ : List Slot} {Q : Rv → List Slot → Prop} : wpM Z (lift (stpV (.list xs) none none (some (-1)))) ρ Q ↔ Q (.fr (.lst xs.reverse)) ρ := by
  have e : stpV (.list xs) none none (some (-1)) = some (.fr (.lst xs.reverse)) := by simp [stpV, stepX_rev]
  rw [e]; simp [wp_lift]
@[simp] theorem st_revT {xs : List D} {ρ : List Slot} {Q : Rv → List Slot → Prop} : wpM Z (lift (stpV (.tuple xs) none none (some (-1)))) ρ Q ↔ Q (.val (.tuple xs.reverse)) ρ := by
  have e : stpV (.tuple xs) none none (some (-1)) = some (.val (.tuple xs.reverse)) := by simp [stpV, stepX_rev]
  rw [e]; simp [wp_lift]
theorem cmp_eq {a b : D} : cmpV .eq a b = if bothS a b || (SeqAt.shaped a && SeqAt.shaped b) || eqD a b then some (PyData.eqv a b) else none := rfl
theorem cmp_ne {a b : D} : cmpV .ne a b = if bothS a b || (SeqAt.shaped a && SeqAt.shaped b) || neD a b then some (!PyData.eqv a b) else none := rfl
theorem eqv_int {i j : Int} : PyData.eqv (.int i) (.int j) = decide (i = j) := by
  rw [Bool.eq_iff_iff]
  simp [PyData.eqv]
theorem eqv_str {i j : Str} : PyData.eqv (.str i) (.str j) = decide (i = j) := by
  rw [Bool.eq_iff_iff]
  simp [PyData.eqv]
@[simp] theorem c_eqI {i j : Int} : cmpV .eq (.int i) (.int j) = some (decide (i = j)) := by
  rw [cmp_eq, eqv_int]
  rfl
@[simp] theorem c_neI {i j : Int} : cmpV .ne (.int i) (.int j) = some (!decide (i = j)) := by
  rw [cmp_ne, eqv_int]
  rfl
@[simp] theorem c_eqS {i j : Str} : cmpV .eq (.str i) (.str j) = some (decide (i = j)) := by
  rw [cmp_eq, eqv_str]
  rfl
@[simp] theorem c_neS {i j : Str} : cmpV .ne (.str i) (.str j) = some (!decide (i = j)) := by
  rw [cmp_ne, eqv_str]
  rfl
@[simp] theorem c_isN {d : D} : cmpV .is d .none = some (match d with | .none => true | _ => false) := by cases d <;> rfl
@[simp] theorem c_isnotN {d : D} : cmpV .isnot d .none = some (match d with | .none => false | _ => true) := by cases d <;> rfl
@[simp] theorem c_neB {a b : Bool} : cmpV .ne (.bool a) (.bool b) = some (!decide (a = b)) := by cases a <;> cases b <;> decide +kernel
@[simp] theorem c_eqB {a b : Bool} : cmpV .eq (.bool a) (.bool b) = some (decide (a = b)) := by cases a <;> cases b <;> decide +kernel
@[simp] theorem c_ltS {i j : Str} : cmpV .lt (.str i) (.str j) = some (decide (i.cps.toList < j.cps.toList)) := rfl
@[simp] theorem c_isB {a b : Bool} : cmpV .is (.bool a) (.bool b) = some (decide (a = b)) := rfl
@[simp] theorem c_isnotB {a b : Bool} : cmpV .isnot (.bool a) (.bool b) = some (!decide (a = b)) := rfl
@[simp] theorem t_bool {b : Bool} : truV (.bool b) = some b := rfl
@[simp] theorem t_int {i : Int} : truV (.int i) = some (i != 0) := rfl
@[simp] theorem t_list {xs : List D} : truV (.list xs) = some (!xs.isEmpty) := rfl
@[simp] theorem t_tup {xs : List D} : truV (.tuple xs) = some (!xs.isEmpty) := rfl
@[simp] theorem x_list {xs : List D} {i : Int} : idxV (.list xs) (.int i) = atI xs i := rfl
@[simp] theorem x_tup {xs : List D} {i : Int} : idxV (.tuple xs) (.int i) = atI xs i := rfl
@[simp] theorem s_list {xs : List D} {lo hi : Option Int} : slcV (.list xs) lo hi = some (.fr (.lst (cutD xs lo hi))) := rfl
@[simp] theorem s_tupl {xs : List D} {lo hi : Option Int} : slcV (.tuple xs) lo hi = some (.val (.tuple (cutD xs lo hi))) := rfl
@[simp] theorem slc_str {z : Str} {lo hi : Option Int} : wpM Z (lift (slcV (.str z) lo hi)) ρ Q ↔ fitsL z.length = true ∧ Q (.val (.str (cutS z lo hi))) ρ := by unfold slcV; exact lift_if
@[simp] theorem bi_lenL {xs : List D} : biV .len [.list xs] = some (.val (.int xs.length)) := rfl
@[simp] theorem bi_lenT {xs : List D} : biV .len [.tuple xs] = some (.val (.int xs.length)) := rfl
@[simp] theorem bi_abs {i : Int} : biV .abs [.int i] = some (.val (.int (if i < 0 then -i else i))) := rfl
@[simp] theorem bi_intB {k : Bool} : biV .int [.bool k] = some (.val (.int (if k then 1 else 0))) := rfl
@[simp] theorem bi_tupL {xs : List D} : biV .tuple [.list xs] = some (.val (.tuple xs)) := rfl
@[simp] theorem bi_tupT {xs : List D} : biV .tuple [.tuple xs] = some (.val (.tuple xs)) := rfl
@[simp] theorem bi_listL {xs : List D} : biV .list [.list xs] = some (.fr (.lst xs)) := rfl
@[simp] theorem bi_listT {xs : List D} : biV .list [.tuple xs] = some (.fr (.lst xs)) := rfl
@[simp] theorem bi_repr {d : D} : wpM Z (lift (biV .repr [d])) ρ Q ↔ reprOk d = true ∧ Q (.val (.str d.shown)) ρ := by
  have e : biV .repr [d] = if reprOk d then some (.val (.str d.shown)) else none := by cases d <;> rfl
  rw [e]; exact lift_if
@[simp] theorem bi_max {i j : Int} : biV .max [.int i, .int j] = some (.val (.int (if j > i then j else i))) := rfl
@[simp] theorem bi_min {i j : Int} : biV .min [.int i, .int j] = some (.val (.int (if j < i then j else i))) := rfl
@[simp] theorem dt_str {m : DM} {x : Str} : dmTy m (.str x) = match m with | .lindex => false | _ => true := by cases m <;> rfl
@[simp] theorem dt_lst {xs : List D} : dmTy .lindex (.list xs) = true := rfl
@[simp] theorem dm_count {x y : Str} : dmV .scount [.str x, .str y] = some (.val (.int (Txt.count x y))) := rfl
@[simp] theorem dm_starts {x y : Str} : dmV .starts [.str x, .str y] = some (.val (.bool (Txt.startswith x y))) := rfl
@[simp] theorem meE_insert {xs : List D} {i : Int} {y : D} {P : D → Mv → Prop} : (∃ d mv', meV .insert (.lst xs) [.int i, y] = some (d, mv') ∧ P d mv') ↔ (xs.length < 16777216 ∧ 0 ≤ i ∧ i < 2 ^ 63) ∧ P .none (.lst (xs.take i.toNat ++ [y] ++ xs.drop i.toNat)) := by
  have e : meV .insert (.lst xs) [.int i, y] = if decide (xs.length < sizeLine) && decide (0 ≤ i) && decide (i < 2 ^ 63) then some (.none, .lst (xs.take i.toNat ++ [y] ++ xs.drop i.toNat)) else none := rfl
  rw [e, sizeLine_eq]
  by_cases h : xs.length < 16777216 ∧ 0 ≤ i ∧ i < 2 ^ 63
  · have h' : (decide (xs.length < 16777216) && decide (0 ≤ i) && decide (i < 2 ^ 63)) = true := by simp only [Bool.and_eq_true, decide_eq_true_eq]; exact ⟨⟨h.1, h.2.1⟩, h.2.2⟩
    rw [if_pos h']
    exact ⟨fun ⟨_, _, e, q⟩ => by cases e; exact ⟨h, q⟩, fun q => ⟨_, _, rfl, q.2⟩⟩
  · have h' : ¬ (decide (xs.length < 16777216) && decide (0 ≤ i) && decide (i < 2 ^ 63)) = true := by
      intro z; simp only [Bool.and_eq_true, decide_eq_true_eq] at z; exact h ⟨z.1.1, z.1.2, z.2⟩
    rw [if_neg h']
    exact ⟨fun ⟨_, _, e, _⟩ => (nomatch e), fun q => absurd q.1 h⟩
theorem me_append {xs : List D} {d : D} : meV .append (.lst xs) [d] = if decide (xs.length < sizeLine) then some (.none, .lst (xs ++ [d])) else none := rfl
theorem me_extend {xs ys : List D} : meV .extend (.lst xs) [.list ys] = if fitsL (xs.length + ys.length) then some (.none, .lst (xs ++ ys)) else none := rfl
@[simp] theorem meE_append {xs : List D} {y : D} {P : D → Mv → Prop} : (∃ d mv', meV .append (.lst xs) [y] = some (d, mv') ∧ P d mv') ↔ xs.length < 16777216 ∧ P .none (.lst (xs ++ [y])) := by
  rw [me_append, sizeLine_eq]
  by_cases h : xs.length < 16777216
  · simp only [h, decide_true, if_true, Option.some.injEq, Prod.mk.injEq, true_and]
    exact ⟨fun ⟨_, _, ⟨e1, e2⟩, q⟩ => by subst e1 e2; exact q, fun q => ⟨_, _, ⟨rfl, rfl⟩, q⟩⟩
  · simp [h]
@[simp] theorem meE_extend {xs ys : List D} {P : D → Mv → Prop} : (∃ d mv', meV .extend (.lst xs) [.list ys] = some (d, mv') ∧ P d mv') ↔ fitsL (xs.length + ys.length) = true ∧ P .none (.lst (xs ++ ys)) := by
  rw [me_extend]
  by_cases h : fitsL (xs.length + ys.length) = true
  · simp only [h, if_true, Option.some.injEq, Prod.mk.injEq, true_and]
    exact ⟨fun ⟨_, _, ⟨e1, e2⟩, q⟩ => by subst e1 e2; exact q, fun q => ⟨_, _, ⟨rfl, rfl⟩, q⟩⟩
  · simp [h]
@[simp] theorem valsOf_nil : valsOf [] = some [] := rfl
@[simp] theorem valsOf_cons {d : D} {rs : List Rv} : valsOf (.val d :: rs) = (valsOf rs).map (d :: ·) := rfl
end
/-! ### statements -/
section
variable {Z : Exn → List Slot → Prop} {Φ : Env'} {ρ : List Slot} {Q : Fl → List Slot → Prop}
@[simp] theorem es_nil : wpM Z (exSs Φ .nil) ρ Q ↔ Q .nx ρ := by rw [exSs]; simp
def nxQ (Q : Fl → List Slot → Prop) (k : List Slot → Prop) : Fl → List Slot → Prop
  | .nx, ρ => k ρ
  | f, ρ => Q f ρ
@[simp] theorem nxQ_nx {k : List Slot → Prop} : nxQ Q k .nx ρ ↔ k ρ := Iff.rfl
@[simp] theorem nxQ_brk {k : List Slot → Prop} : nxQ Q k .brk ρ ↔ Q .brk ρ := Iff.rfl
@[simp] theorem nxQ_cnt {k : List Slot → Prop} : nxQ Q k .cnt ρ ↔ Q .cnt ρ := Iff.rfl
@[simp] theorem nxQ_ret {k : List Slot → Prop} {r : Rv} : nxQ Q k (.ret r) ρ ↔ Q (.ret r) ρ := Iff.rfl
@[simp] theorem es_cons {s : St'} {ss : Sts} : wpM Z (exSs Φ (.cons s ss)) ρ Q ↔ wpM Z (exS Φ s) ρ (nxQ Q fun ρ' => wpM Z (exSs Φ ss) ρ' Q) := by
  rw [exSs]
  rw [wp_bind]
  refine iff_of_eq ?_
  congr 1
  funext f ρ'
  cases f <;> simp
@[simp] theorem es_expr {e : Ex} : wpM Z (exS Φ (.expr e)) ρ Q ↔ wpM Z (evE Φ e) ρ fun _ ρ' => Q .nx ρ' := by rw [exS]; simp
@[simp] theorem es_asg {i : Nat} {e : Ex} : wpM Z (exS Φ (.asg (.nm i) e)) ρ Q ↔ wpM Z (evE Φ e) ρ fun r ρ1 => wpM Z (store i r) ρ1 fun _ ρ2 => Q .nx ρ2 := by rw [exS]; simp
@[simp] theorem es_asgT {is : List Nat} {e : Ex} : wpM Z (exS Φ (.asg (.tup is) e)) ρ Q ↔ wpM Z (evE Φ e) ρ fun r ρ1 => pk r ρ1 fun d => wpM Z (putT (.tup is) d) ρ1 fun _ ρ2 => Q .nx ρ2 := by rw [exS]; simp
@[simp] theorem es_asgS {is : List Nat} {j : Nat} {e : Ex} : wpM Z (exS Φ (.asg (.str is j) e)) ρ Q ↔ wpM Z (evE Φ e) ρ fun r ρ1 => pk r ρ1 fun d => wpM Z (putT (.str is j) d) ρ1 fun _ ρ2 => Q .nx ρ2 := by rw [exS]; simp
theorem put_sl {is : List Nat} {j : Nat} {ds : List D} (h : is.length ≤ ds.length) : putT (.str is j) (.list ds) = putAll (is ++ [j]) (ds.take is.length ++ [.list (ds.drop is.length)]) := by first | rw [put_slq, if_pos h] | rw [put_stq, if_pos h]
theorem put_st {is : List Nat} {j : Nat} {ds : List D} (h : is.length ≤ ds.length) : putT (.str is j) (.tuple ds) = putAll (is ++ [j]) (ds.take is.length ++ [.list (ds.drop is.length)]) := by first | rw [put_slq, if_pos h] | rw [put_stq, if_pos h]
@[simp] theorem put_lst {is : List Nat} {ds : List D} : putT (.tup is) (.list ds) = putAll is ds := rfl
@[simp] theorem put_tup {is : List Nat} {ds : List D} : putT (.tup is) (.tuple ds) = putAll is ds := rfl
@[simp] theorem put_all0 {R : Unit → List Slot → Prop} : wpM Z (putAll [] []) ρ R ↔ R () ρ := by simp [putAll]
@[simp] theorem put_all1 {R : Unit → List Slot → Prop} {i : Nat} {is : List Nat} {d : D} {ds : List D} : wpM Z (putAll (i :: is) (d :: ds)) ρ R ↔ isPin ρ[i]? = false ∧ wpM Z (putAll is ds) (ρ.set i (.val d)) R := by simp [putAll]
@[simp] theorem es_asg2 {i j : Nat} {e : Ex} : wpM Z (exS Φ (.asg2 i j e)) ρ Q ↔ wpM Z (evE Φ e) ρ fun r ρ1 => wpM Z (frz r) ρ1 fun d ρ2 => isPin ρ2[i]? = false ∧ isPin (ρ2.set i (.val d))[j]? = false ∧ Q .nx ((ρ2.set i (.val d)).set j (.val d)) := by rw [exS]; simp
@[simp] theorem es_par {i j : Nat} {a b : Ex} : wpM Z (exS Φ (.par i j a b)) ρ Q ↔ wpM Z (evE Φ a) ρ fun x ρ1 => wpM Z (evE Φ b) ρ1 fun y ρ2 => wpM Z (frz x) ρ2 fun dx ρ3 => wpM Z (frz y) ρ3 fun dy ρ4 => isPin ρ4[i]? = false ∧ isPin (ρ4.set i (.val dx))[j]? = false ∧ Q .nx ((ρ4.set i (.val dx)).set j (.val dy)) := by rw [exS]; simp
theorem wp_own {α : Type} {i : Nat} {m : M α} {R : α → List Slot → Prop} : wpM Z (fun ρ => if isOwnL ρ[i]? = true then m ρ else .stuck) ρ R ↔ isOwnL ρ[i]? = true ∧ wpM Z m ρ R := by
  cases h : isOwnL ρ[i]? with
  | false => rw [wp_no (by simp [h])]; simp
  | true => rw [wp_same (g := m) (by simp [h])]; simp
theorem wp_ownA {α : Type} {i : Nat} {m : M α} {R : α → List Slot → Prop} : wpM Z (fun ρ => if isOwn ρ[i]? = true then m ρ else .stuck) ρ R ↔ isOwn ρ[i]? = true ∧ wpM Z m ρ R := by
  cases h : isOwn ρ[i]? with
  | false => rw [wp_no (by simp [h])]; simp
  | true => rw [wp_same (g := m) (by simp [h])]; simp
theorem wp_setML {o : Nat} {k d : D} : wpM Z (setML o k d) ρ Q ↔ isOwnL ρ[o]? = true ∧ wpM Z (setM o k d) ρ Q := wp_own
def setQ (o : Nat) (k d : D) (ρ : List Slot) (Q : Fl → List Slot → Prop) (s : Option Slot) : Prop := match s with
  | some (.own pin m) => ∃ m', setV m k d = some m' ∧ Q .nx (ρ.set o (.own pin m'))
  | _ => False
@[simp] theorem wp_set {o : Nat} {k d : D} : wpM Z (setM o k d) ρ Q ↔ setQ o k d ρ Q ρ[o]? := by
  cases q : ρ[o]? with
  | none => exact wp_no (by unfold setM; simp [q])
  | some s =>
    cases s with
    | non => exact wp_no (by unfold setM; simp [q])
    | st t => exact wp_no (by unfold setM; simp [q])
    | val d => exact wp_no (by unfold setM; simp [q])
    | own pin mv =>
      unfold setQ
      cases z : setV mv k d with
      | none => rw [wp_no (by unfold setM; simp [q, z])]; simp [z]
      | some m' =>
        rw [wp_ok0 (a := .nx) (ρ' := ρ.set o (.own pin m')) (by unfold setM; simp [q, z])]
        exact ⟨fun h => ⟨m', z, h⟩, fun ⟨_, e, h⟩ => by rw [z] at e; cases e; exact h⟩
@[simp] theorem setQ_own {o : Nat} {k d : D} {pin : Option Nat} {m : Mv} : setQ o k d ρ Q (some (.own pin m)) ↔ ∃ m', setV m k d = some m' ∧ Q .nx (ρ.set o (.own pin m')) := Iff.rfl
theorem wp_own2 {α : Type} {i j : Nat} {m : M α} {R : α → List Slot → Prop} : wpM Z (fun ρ => if (isOwn ρ[i]? && isOwn ρ[j]?) = true then m ρ else .stuck) ρ R ↔ (isOwn ρ[i]? && isOwn ρ[j]?) = true ∧ wpM Z m ρ R := by
  cases h : (isOwn ρ[i]? && isOwn ρ[j]?) with
  | false => rw [wp_no (by simp only [h]; rfl)]; simp
  | true => rw [wp_same (g := m) (by simp only [h]; rfl)]; simp
@[simp] theorem es_setS {o j : Nat} {lo hi : Op} : wpM Z (exS Φ (.setS o lo hi j)) ρ Q ↔ (isOwn ρ[o]? && isOwn ρ[j]?) = true ∧ wpM Z (evO Φ lo) ρ fun a ρ1 => wpM Z (evO Φ hi) ρ1 fun c ρ2 => wpM Z (setSl o j a c) ρ2 Q := by
  rw [exS]
  simp only [wp_own2, wp_bind]
theorem wp_setSl {o j : Nat} {a c : Int} {pin pin2 : Option Nat} {xs ys : List D} (e1 : ρ[o]? = some (.own pin (.lst xs))) (e2 : ρ[j]? = some (.own pin2 (.lst ys))) (hc : o ≠ j ∧ 0 ≤ a ∧ a ≤ c ∧ c ≤ xs.length ∧ fitsL (xs.length + ys.length) = true)
    (h : Q .nx (ρ.set o (.own pin (.lst (xs.take a.toNat ++ ys ++ xs.drop c.toNat))))) : wpM Z (setSl o j (some a) (some c)) ρ Q := by
  rw [wp_ok0 (a := .nx) (ρ' := ρ.set o (.own pin (.lst (xs.take a.toNat ++ ys ++ xs.drop c.toNat)))) (by unfold setSl; simp only [e1, e2]; rw [if_pos hc])]
  exact h
@[simp] theorem es_setI {o : Nat} {i e : Ex} : wpM Z (exS Φ (.setI o i e)) ρ Q ↔ wpM Z (evE Φ e) ρ fun r ρ1 => wpM Z (frz r) ρ1 fun d ρ2 => isOwn ρ2[o]? = true ∧ wpM Z (evE Φ i) ρ2 fun k ρ3 => pk k ρ3 fun kd => wpM Z (setM o kd d) ρ3 Q := by
  rw [exS]
  simp only [wp_bind, wp_ownA, wp_pk]
def ownQ (ρ : List Slot) (s : Option Slot) (K : List D → Prop) : Prop := match s with
  | some (.own _ (.lst xs)) => K xs
  | _ => False
@[simp] theorem wp_peekL {o : Nat} {R : List D → List Slot → Prop} : wpM Z (peekL o) ρ R ↔ ownQ ρ ρ[o]? fun xs => R xs ρ := by
  cases q : ρ[o]? with
  | none => exact wp_no (by unfold peekL; simp [q, ownLst])
  | some s =>
    cases s with
    | non => exact wp_no (by unfold peekL; simp [q, ownLst])
    | st t => exact wp_no (by unfold peekL; simp [q, ownLst])
    | val d => exact wp_no (by unfold peekL; simp [q, ownLst])
    | own pin mv =>
      cases mv with
      | lst xs => exact wp_ok0 (by unfold peekL; simp [q, ownLst])
      | dct kvs => exact wp_no (by unfold peekL; simp [q, ownLst])
@[simp] theorem ownQ_own {pin : Option Nat} {xs : List D} {K : List D → Prop} : ownQ ρ (some (.own pin (.lst xs))) K ↔ K xs := Iff.rfl
@[simp] theorem es_augI {o : Nat} {i e : Ex} {op : BO} : wpM Z (exS Φ (.augI o i op e)) ρ Q ↔ isOwnL ρ[o]? = true ∧ wpM Z (evE Φ i) ρ fun k ρ1 => pk k ρ1 fun kd => ownQ ρ1 ρ1[o]? fun xs => wpM Z (lift (idxV (.list xs) kd)) ρ1 fun x ρ2 => wpM Z (evE Φ e) ρ2 fun r ρ3 => pk r ρ3 fun y => wpM Z (lift (iopV op x y)) ρ3 fun z ρ4 => isOwnL ρ4[o]? = true ∧ wpM Z (setM o kd z) ρ4 Q := by
  rw [exS]
  simp only [wp_bind, wp_own, wp_pk, wp_peekL, wp_setML]
def augQ (s : Option Slot) (K : D → Prop) : Prop := match s with
  | some (.val d) => K d
  | _ => False
@[simp] theorem augQ_val {d : D} {K : D → Prop} : augQ (some (.val d)) K ↔ K d := Iff.rfl
@[simp] theorem es_aug {i : Nat} {o : BO} {e : Ex} : wpM Z (exS Φ (.aug i o e)) ρ Q ↔ augQ ρ[i]? fun x => wpM Z (evE Φ e) ρ fun r ρ1 => pk r ρ1 fun y => wpM Z (lift (iopV o x y)) ρ1 fun z ρ2 => isPin ρ2[i]? = false ∧ Q .nx (ρ2.set i (.val z)) := by
  rw [exS]
  cases q : ρ[i]? with
  | none => exact wp_no (by simp [q])
  | some s =>
    cases s with
    | non => exact wp_no (by simp [q])
    | st _ => exact wp_no (by simp [q])
    | own _ _ => exact wp_no (by simp [q])
    | val d =>
      have key : ∀ (m : D → M Fl), wpM Z (fun ρ => match ρ[i]? with | some (.val x) => m x ρ | _ => .stuck) ρ Q ↔ wpM Z (m d) ρ Q := fun m => wp_same (by simp [q])
      refine (key fun x => M.bind (evE Φ e) fun r => M.bind (peek r) fun y => M.bind (lift (iopV o x y)) fun z => M.bind (store i (.val z)) fun _ => M.pure .nx).trans ?_
      simp
def retQ (i : Nat) (ρ : List Slot) (Q : Fl → List Slot → Prop) : Option Slot → Prop
  | some (.val d) => Q (.ret (.val d)) ρ
  | some (.own none m) => Q (.ret (.fr m)) (ρ.set i .non)
  | _ => False
def retR (r : Rv) (ρ : List Slot) (Q : Fl → List Slot → Prop) : Prop := match r with
  | .bor i => retQ i ρ Q ρ[i]?
  | r => Q (.ret r) ρ
@[simp] theorem retR_val {d : D} : retR (.val d) ρ Q ↔ Q (.ret (.val d)) ρ := Iff.rfl
@[simp] theorem retR_fr {m : Mv} : retR (.fr m) ρ Q ↔ Q (.ret (.fr m)) ρ := Iff.rfl
@[simp] theorem retR_st {t : Still} : retR (.st t) ρ Q ↔ Q (.ret (.st t)) ρ := Iff.rfl
@[simp] theorem retR_bor {i : Nat} : retR (.bor i) ρ Q ↔ retQ i ρ Q ρ[i]? := Iff.rfl
@[simp] theorem retQ_val {i : Nat} {d : D} : retQ i ρ Q (some (.val d)) ↔ Q (.ret (.val d)) ρ := Iff.rfl
@[simp] theorem retQ_own {i : Nat} {m : Mv} : retQ i ρ Q (some (.own none m)) ↔ Q (.ret (.fr m)) (ρ.set i .non) := Iff.rfl
@[simp] theorem es_ret {e : Ex} : wpM Z (exS Φ (.ret e)) ρ Q ↔ wpM Z (evE Φ e) ρ fun r ρ1 => retR r ρ1 Q := by
  rw [exS, wp_bind]
  refine iff_of_eq ?_
  congr 1
  funext r ρ1
  refine propext ?_
  cases r with
  | val d => exact wp_ok0 rfl
  | fr m => exact wp_ok0 rfl
  | st t => exact wp_ok0 rfl
  | bor i =>
    rw [retR_bor]
    cases q : ρ1[i]? with
    | none => exact wp_no (by simp [q])
    | some s =>
      cases s with
      | non => exact wp_no (by simp [q])
      | st _ => exact wp_no (by simp [q])
      | val d => exact wp_ok0 (by simp [q])
      | own pin m =>
        cases pin with
        | none => exact wp_ok0 (by simp [q])
        | some k => exact wp_no (by simp [q])
@[simp] theorem es_retN : wpM Z (exS Φ .retN) ρ Q ↔ Q (.ret (.val .none)) ρ := by rw [exS]; simp
@[simp] theorem es_ife {t : Te} {a b : Sts} : wpM Z (exS Φ (.ife t a b)) ρ Q ↔ wpM Z (evT Φ t) ρ fun k ρ1 => (k = true → wpM Z (exSs Φ a) ρ1 Q) ∧ (k = false → wpM Z (exSs Φ b) ρ1 Q) := by rw [exS]; simp [wp_ite]
@[simp] theorem es_brk : wpM Z (exS Φ .brk) ρ Q ↔ Q .brk ρ := by rw [exS]; simp
@[simp] theorem es_cnt : wpM Z (exS Φ .cnt) ρ Q ↔ Q .cnt ρ := by rw [exS]; simp
@[simp] theorem es_dead : wpM Z (exS Φ .dead) ρ Q ↔ False := by rw [exS]; simp
@[simp] theorem es_pass : wpM Z (exS Φ .pass) ρ Q ↔ Q .nx ρ := by rw [exS]; simp
/-- the walk of a for -/
theorem es_loop {tg : Tg} {it : Itr'} {b : Sts} : wpM Z (exS Φ (.loop tg it b)) ρ Q ↔ wpM Z (evI Φ it) ρ fun w ρ1 => lkIn w.lock (lksOf it) = true ∧ wpM Z (forGo tg (exSs Φ b) w.lock w.items) ρ1 Q := by rw [exS]; simp [wp_guard]
def loopQ (Q : Fl → List Slot → Prop) (k : List Slot → Prop) : Fl → List Slot → Prop
  | .nx, ρ => k ρ
  | .cnt, ρ => k ρ
  | .brk, ρ => Q .nx ρ
  | .ret r, ρ => Q (.ret r) ρ
@[simp] theorem loopQ_nx {k : List Slot → Prop} : loopQ Q k .nx ρ ↔ k ρ := Iff.rfl
@[simp] theorem loopQ_cnt {k : List Slot → Prop} : loopQ Q k .cnt ρ ↔ k ρ := Iff.rfl
@[simp] theorem loopQ_brk {k : List Slot → Prop} : loopQ Q k .brk ρ ↔ Q .nx ρ := Iff.rfl
@[simp] theorem loopQ_ret {k : List Slot → Prop} {r : Rv} : loopQ Q k (.ret r) ρ ↔ Q (.ret r) ρ := Iff.rfl
theorem forGo_nil {tg : Tg} {m : M Fl} {l : Lk} : wpM Z (forGo tg m l []) ρ Q ↔ lockOk ρ l = true ∧ Q .nx ρ := by
  cases h : lockOk ρ l with
  | false => rw [wp_no (by unfold forGo; simp [h])]; simp
  | true => rw [wp_ok0 (a := .nx) (ρ' := ρ) (by unfold forGo; simp [h])]; simp
theorem forGo_cons {tg : Tg} {m : M Fl} {l : Lk} {d : D} {ds : List D} (h : lockOk ρ l = true) (q : wpM Z (putT tg d) ρ fun _ ρ1 => wpM Z m ρ1 (loopQ Q fun ρ2 => wpM Z (forGo tg m l ds) ρ2 Q)) : wpM Z (forGo tg m l (d :: ds)) ρ Q := by
  have px : ∀ e ρ', putT tg d ρ ≠ .exc e ρ' := fun e ρ' z => putT_noexc z
  unfold wpM forGo
  simp only [h, if_true]
  unfold wpM at q
  cases q1 : putT tg d ρ with
  | exc e ρ' => exact (px e ρ' q1).elim
  | stuck => rw [q1] at q; exact q.elim
  | ok u ρ1 =>
    rw [q1] at q
    simp only at q ⊢
    cases q2 : m ρ1 with
    | exc e ρ' => rw [q2] at q; exact q
    | stuck => rw [q2] at q; exact q.elim
    | ok f ρ2 =>
      rw [q2] at q
      cases f with
      | nx => exact q
      | cnt => exact q
      | brk => exact q
      | ret r => exact q
/-- a for, by what holds ahead of its k-th turn -/
theorem for_inv {tg : Tg} {m : M Fl} {l : Lk} {items : List D} (I : Nat → List Slot → Prop) (h0 : I 0 ρ) (lk : ∀ k ρ, k ≤ items.length → I k ρ → lockOk ρ l = true)
    (step : ∀ k d ρ, items[k]? = some d → I k ρ → wpM Z (putT tg d) ρ fun _ ρ1 => wpM Z m ρ1 (loopQ Q (I (k + 1)))) (fin : ∀ ρ, I items.length ρ → Q .nx ρ) : wpM Z (forGo tg m l items) ρ Q := by
  have go : ∀ n k ρ, k + n = items.length → I k ρ → wpM Z (forGo tg m l (items.drop k)) ρ Q := by
    intro n
    induction n with
    | zero =>
      intro k ρ hk hi
      have hk : k = items.length := by omega
      subst hk
      rw [List.drop_length, forGo_nil]
      exact ⟨lk _ _ (Nat.le_refl _) hi, fin ρ hi⟩
    | succ n ih =>
      intro k ρ hk hi
      have hlt : k < items.length := by omega
      rw [List.drop_eq_getElem_cons hlt]
      refine forGo_cons (lk k ρ (by omega) hi) ((step k _ ρ (List.getElem?_eq_getElem hlt) hi).mono fun _ ρ1 h => h.mono fun f ρ2 h2 => ?_)
      cases f with
      | nx => exact ih (k + 1) ρ2 (by omega) h2
      | cnt => exact ih (k + 1) ρ2 (by omega) h2
      | brk => exact h2
      | ret r => exact h2
  have := go items.length 0 ρ (by omega) h0
  rwa [List.drop_zero] at this
/-! ### comprehensions -/
theorem lc_inv {own : List (Str × Nat)} {elt : Ex} {tg : Tg} {it : Itr'} {tt : Tes} {QR : Rv → List Slot → Prop}
    (h : wpM Z (evI Φ it) ρ fun w ρ1 => ownFree ρ1 (own.map (·.2)) = true ∧ lkOut w.lock (own.map (·.2)) = true ∧ ∃ I : Nat → List D → List Slot → Prop, I 0 [] (wipeS ρ1 (own.map (·.2))) ∧ (∀ k acc ρ, k ≤ w.items.length → I k acc ρ → lockOk ρ w.lock = true) ∧
      (∀ k d acc ρ, w.items[k]? = some d → I k acc ρ → wpM noX (putT tg d) ρ fun _ ρ2 => wpM noX (evAnd Φ tt) ρ2 fun b ρ3 => (b = true → wpM noX (evE Φ elt) ρ3 fun r ρ4 => wpM noX (frz r) ρ4 fun y ρ5 => acc.length < sizeLine ∧ I (k + 1) (acc ++ [y]) (wipeS ρ5 (own.map (·.2)))) ∧ (b = false → I (k + 1) acc (wipeS ρ3 (own.map (·.2))))) ∧
      ∀ acc ρ2, I w.items.length acc ρ2 → QR (.fr (.lst acc)) (backS ρ1 ρ2 (own.map (·.2)))) : wpM Z (evE Φ (.lc own elt tg it tt)) ρ QR := by
  rw [evE]
  unfold lcM
  rw [wp_bind]
  refine h.mono fun w ρ1 ⟨h1, h2, I, h0, lk, step, fin⟩ => ?_
  have go : ∀ n k acc ρ, k + n = w.items.length → I k acc ρ → wpM noX (lcGo tg (evAnd Φ tt) (evE Φ elt) w.lock (own.map (·.2)) (w.items.drop k) acc) ρ fun acc' ρ' => I w.items.length acc' ρ' := by
    intro n
    induction n with
    | zero =>
      intro k acc ρ hk hi
      have hk : k = w.items.length := by omega
      subst hk
      rw [List.drop_length]
      exact wpM.of_ok ⟨acc, ρ, by unfold lcGo; simp [lk _ _ _ (Nat.le_refl _) hi], hi⟩
    | succ n ih =>
      intro k acc ρ hk hi
      have hlt : k < w.items.length := by omega
      rw [List.drop_eq_getElem_cons hlt]
      obtain ⟨u, ρ2, e1, h2⟩ := (step k _ acc ρ (List.getElem?_eq_getElem hlt) hi).ok
      obtain ⟨b, ρ3, e2, ht, hf⟩ := h2.ok
      have hl := lk k acc ρ (by omega) hi
      cases b with
      | true =>
        obtain ⟨r, ρ4, e3, h4⟩ := (ht rfl).ok
        obtain ⟨y, ρ5, e4, hz, hi2⟩ := h4.ok
        obtain ⟨a, ρ6, e5, q⟩ := (ih (k + 1) _ _ (by omega) hi2).ok
        exact wpM.of_ok ⟨a, ρ6, by unfold lcGo; simp [hl, e1, e2, M.bind, e3, e4, hz, e5], q⟩
      | false =>
        obtain ⟨a, ρ6, e5, q⟩ := (ih (k + 1) _ _ (by omega) (hf rfl)).ok
        exact wpM.of_ok ⟨a, ρ6, by unfold lcGo; simp [hl, e1, e2, e5], q⟩
  obtain ⟨acc, ρ', e, q⟩ := (go w.items.length 0 [] _ (by omega) h0).ok
  rw [List.drop_zero] at e
  exact wpM.of_ok ⟨_, _, by simp [h1, h2, e], fin acc ρ' q⟩
/-- the turns of a comprehension, from any list on -/
theorem lcGo_inv {tg : Tg} {tt : M Bool} {elt : M Rv} {l : Lk} {own : List Nat} {items : List D} {QL : List D → List Slot → Prop} {acc0 : List D} (I : Nat → List D → List Slot → Prop) (h0 : I 0 acc0 ρ) (lk : ∀ k acc ρ, k ≤ items.length → I k acc ρ → lockOk ρ l = true)
    (step : ∀ k d acc ρ, items[k]? = some d → I k acc ρ → wpM noX (putT tg d) ρ fun _ ρ2 => wpM noX tt ρ2 fun b ρ3 => (b = true → wpM noX elt ρ3 fun r ρ4 => wpM noX (frz r) ρ4 fun y ρ5 => acc.length < sizeLine ∧ I (k + 1) (acc ++ [y]) (wipeS ρ5 own)) ∧ (b = false → I (k + 1) acc (wipeS ρ3 own)))
    (fin : ∀ acc ρ, I items.length acc ρ → QL acc ρ) : wpM noX (lcGo tg tt elt l own items acc0) ρ QL := by
  have go : ∀ n k acc ρ, k + n = items.length → I k acc ρ → wpM noX (lcGo tg tt elt l own (items.drop k) acc) ρ fun acc' ρ' => I items.length acc' ρ' := by
    intro n
    induction n with
    | zero =>
      intro k acc ρ hk hi
      have hk : k = items.length := by omega
      subst hk
      rw [List.drop_length]
      exact wpM.of_ok ⟨acc, ρ, by unfold lcGo; simp [lk _ _ _ (Nat.le_refl _) hi], hi⟩
    | succ n ih =>
      intro k acc ρ hk hi
      have hlt : k < items.length := by omega
      rw [List.drop_eq_getElem_cons hlt]
      obtain ⟨u, ρ2, e1, h2⟩ := (step k _ acc ρ (List.getElem?_eq_getElem hlt) hi).ok
      obtain ⟨b, ρ3, e2, ht, hf⟩ := h2.ok
      have hl := lk k acc ρ (by omega) hi
      cases b with
      | true =>
        obtain ⟨r, ρ4, e3, h4⟩ := (ht rfl).ok
        obtain ⟨y, ρ5, e4, hz, hi2⟩ := h4.ok
        obtain ⟨a, ρ6, e5, q⟩ := (ih (k + 1) _ _ (by omega) hi2).ok
        exact wpM.of_ok ⟨a, ρ6, by unfold lcGo; simp [hl, e1, e2, M.bind, e3, e4, hz, e5], q⟩
      | false =>
        obtain ⟨a, ρ6, e5, q⟩ := (ih (k + 1) _ _ (by omega) (hf rfl)).ok
        exact wpM.of_ok ⟨a, ρ6, by unfold lcGo; simp [hl, e1, e2, e5], q⟩
  have := go items.length 0 acc0 ρ (by omega) h0
  rw [List.drop_zero] at this
  exact this.mono fin
/-- two fors -/
theorem lc2_inv {own : List (Str × Nat)} {own1 : List Nat} {elt e1 : Ex} {tg tg1 : Tg} {it : Itr'} {tt tt1 : Tes} {QR : Rv → List Slot → Prop}
    (h : wpM Z (evI Φ it) ρ fun w ρ1 => ownFree ρ1 (own.map (·.2)) = true ∧ lkOut w.lock (own.map (·.2)) = true ∧ ∃ I : Nat → List D → List Slot → Prop, I 0 [] (wipeS ρ1 (own.map (·.2))) ∧ (∀ k acc ρ, k ≤ w.items.length → I k acc ρ → lockOk ρ w.lock = true) ∧
      (∀ k d acc ρ, w.items[k]? = some d → I k acc ρ → wpM noX (putT tg d) ρ fun _ ρ2 => wpM noX (evAnd Φ tt) ρ2 fun b ρ3 => (b = true → wpM noX (evE Φ e1) ρ3 fun r ρ4 => wpM noX (frz r) ρ4 fun y ρ5 => ∃ items, itemsOf y = some items ∧
        wpM noX (lcGo tg1 (evAnd Φ tt1) (evE Φ elt) [] own1 items acc) (wipeS ρ5 own1) fun acc' ρ6 => I (k + 1) acc' (wipeS ρ6 (own.map (·.2)))) ∧ (b = false → I (k + 1) acc (wipeS ρ3 (own.map (·.2))))) ∧
      ∀ acc ρ2, I w.items.length acc ρ2 → QR (.fr (.lst acc)) (backS ρ1 ρ2 (own.map (·.2)))) : wpM Z (evE Φ (.lc2 own own1 elt tg it tt tg1 e1 tt1)) ρ QR := by
  rw [evE]
  unfold lc2M
  rw [wp_bind]
  refine h.mono fun w ρ1 ⟨h1, h2, I, h0, lk, step, fin⟩ => ?_
  have go : ∀ n k acc ρ, k + n = w.items.length → I k acc ρ → wpM noX (lc2Go tg (evAnd Φ tt) (evE Φ e1) tg1 (evAnd Φ tt1) (evE Φ elt) w.lock (own.map (·.2)) own1 (w.items.drop k) acc) ρ fun acc' ρ' => I w.items.length acc' ρ' := by
    intro n
    induction n with
    | zero =>
      intro k acc ρ hk hi
      have hk : k = w.items.length := by omega
      subst hk
      rw [List.drop_length]
      exact wpM.of_ok ⟨acc, ρ, by unfold lc2Go; simp [lk _ _ _ (Nat.le_refl _) hi], hi⟩
    | succ n ih =>
      intro k acc ρ hk hi
      have hlt : k < w.items.length := by omega
      rw [List.drop_eq_getElem_cons hlt]
      obtain ⟨u, ρ2, e1, h2⟩ := (step k _ acc ρ (List.getElem?_eq_getElem hlt) hi).ok
      obtain ⟨b, ρ3, e2, ht, hf⟩ := h2.ok
      have hl := lk k acc ρ (by omega) hi
      cases b with
      | true =>
        obtain ⟨r, ρ4, e3, h4⟩ := (ht rfl).ok
        obtain ⟨y, ρ5, e4, items, ei, h5⟩ := h4.ok
        obtain ⟨acc', ρ6, e6, hi2⟩ := h5.ok
        obtain ⟨a, ρ7, e7, q⟩ := (ih (k + 1) _ _ (by omega) hi2).ok
        exact wpM.of_ok ⟨a, ρ7, by unfold lc2Go; simp [hl, e1, e2, M.bind, e3, e4, ei, e6, e7], q⟩
      | false =>
        obtain ⟨a, ρ6, e5, q⟩ := (ih (k + 1) _ _ (by omega) (hf rfl)).ok
        exact wpM.of_ok ⟨a, ρ6, by unfold lc2Go; simp [hl, e1, e2, e5], q⟩
  obtain ⟨acc, ρ', e, q⟩ := (go w.items.length 0 [] _ (by omega) h0).ok
  rw [List.drop_zero] at e
  exact wpM.of_ok ⟨_, _, by simp [h1, h2, e], fin acc ρ' q⟩
end
/-! ### defs -/
def endQ (as : List Slot) (k : Nat) (Q : Rv → List Slot → Prop) : Fl → List Slot → Prop
  | .nx, ρ => ∃ as', outArgs 0 as ρ = some as' ∧ Q (.val .none) (as'.take k)
  | .ret r, ρ => (∀ i, r ≠ .bor i) ∧ ∃ as', outArgs 0 as ρ = some as' ∧ Q r (as'.take k)
  | _, _ => False
/-- where an error leaves a def -/
def endZ (as : List Slot) (k : Nat) (Z : Exn → List Slot → Prop) : Exn → List Slot → Prop := fun e ρ => ∃ as', outArgs 0 as ρ = some as' ∧ Z e (as'.take k)
theorem wp_def {Φ : Env'} {n : Nat} {B : Nat → List (Str × D) → Option (List D)} {b : Sts} {as : List Slot} {kw : List (Str × D)} {Z : Exn → List Slot → Prop} {Q : Rv → List Slot → Prop} {ext : List D} (hB : B as.length kw = some ext)
    (h : wpM (endZ (as ++ ext.map .val) as.length Z) (exSs Φ b) ((as ++ ext.map .val) ++ List.replicate (n - (as ++ ext.map Slot.val).length) .non) (endQ (as ++ ext.map .val) as.length Q)) : wpF Z (semF Φ n B b) as kw Q := by
  unfold wpF semF
  rw [hB]
  simp only [runB]
  unfold wpM at h
  cases e : exSs Φ b ((as ++ ext.map .val) ++ List.replicate (n - (as ++ ext.map Slot.val).length) .non) with
  | stuck => rw [e] at h; exact h.elim
  | exc x ρ =>
    rw [e] at h
    obtain ⟨as', h1, h2⟩ := h
    simp only [h1]
    exact h2
  | ok f ρ =>
    rw [e] at h
    cases f with
    | brk => exact h.elim
    | cnt => exact h.elim
    | nx =>
      obtain ⟨as', h1, h2⟩ := h
      simp only [endR, h1]
      exact h2
    | ret r =>
      obtain ⟨hn, as', h1, h2⟩ := h
      cases r with
      | bor i => exact absurd rfl (hn i)
      | val d => simp only [endR, h1]; exact h2
      | fr m => simp only [endR, h1]; exact h2
      | st t => simp only [endR, h1]; exact h2
theorem wp_defS {Φ : Env'} {n np : Nat} {shs : List Shp} {b : Sts} {as : List Slot} {kw : List (Str × D)} {Z : Exn → List Slot → Prop} {Q : Rv → List Slot → Prop} {ext ds : List D} (hn : np ≤ as.length) (hd : as.drop np = ds.map .val) (hB : bSrc [] shs np kw = some ext) (hz : ds.length ≤ 16777216)
    (h : wpM (endZ (as.take np ++ (ext ++ [PyData.tuple ds]).map .val) np fun e as1 => Z e (as1 ++ ds.map .val)) (exSs Φ b) ((as.take np ++ (ext ++ [PyData.tuple ds]).map .val) ++ List.replicate (n - (as.take np ++ (ext ++ [PyData.tuple ds]).map Slot.val).length) .non)
      (endQ (as.take np ++ (ext ++ [PyData.tuple ds]).map .val) np fun r as1 => Q r (as1 ++ ds.map .val))) : wpF Z (semV Φ n np shs b) as kw Q := by
  unfold wpF semV
  rw [if_pos hn, hd, valsS_map, hB]
  simp only [runB]
  rw [if_pos (show fitsL ds.length = true from decide_eq_true hz)]
  unfold wpM at h
  cases e : exSs Φ b ((as.take np ++ (ext ++ [PyData.tuple ds]).map .val) ++ List.replicate (n - (as.take np ++ (ext ++ [PyData.tuple ds]).map Slot.val).length) .non) with
  | stuck => rw [e] at h; exact h.elim
  | exc x ρ =>
    rw [e] at h
    obtain ⟨as', h1, h2⟩ := h
    simp only [h1]
    exact h2
  | ok f ρ =>
    rw [e] at h
    cases f with
    | brk => exact h.elim
    | cnt => exact h.elim
    | nx =>
      obtain ⟨as', h1, h2⟩ := h
      simp only [endR, h1]
      exact h2
    | ret r =>
      obtain ⟨hn, as', h1, h2⟩ := h
      cases r with
      | bor i => exact absurd rfl (hn i)
      | val d => simp only [endR, h1]; exact h2
      | fr m => simp only [endR, h1]; exact h2
      | st t => simp only [endR, h1]; exact h2
@[simp] theorem endQ_nx {as : List Slot} {k : Nat} {Q : Rv → List Slot → Prop} {ρ : List Slot} : endQ as k Q .nx ρ ↔ ∃ as', outArgs 0 as ρ = some as' ∧ Q (.val .none) (as'.take k) := Iff.rfl
@[simp] theorem endQ_ret {as : List Slot} {k : Nat} {Q : Rv → List Slot → Prop} {ρ : List Slot} {r : Rv} : endQ as k Q (.ret r) ρ ↔ (∀ i, r ≠ .bor i) ∧ ∃ as', outArgs 0 as ρ = some as' ∧ Q r (as'.take k) := Iff.rfl
end PV
set_option Elab.async false
set_option linter.all false
set_option autoImplicit false
set_option maxRecDepth 100000
set_option maxHeartbeats 2000000
/-! PV: errors, reckoned. -/
namespace PV
open PySem PySem.Spec PyProof.Rows L2
section
variable {Z : Exn → List Slot → Prop} {Φ : Env'} {ρ : List Slot} {Q : Fl → List Slot → Prop} {QR : Rv → List Slot → Prop} {QB : Bool → List Slot → Prop}
@[simp] theorem es_raise {x : Str} {es : Exs} : wpM Z (exS Φ (.raise x es)) ρ Q ↔ ∃ fs, Φ.ex x = some fs ∧ wpM Z (evEs Φ es) ρ fun rs ρ1 => wpM Z (frzs rs) ρ1 fun ds ρ2 => fs.length = ds.length ∧ Z ⟨x, (fs.zip ds).reverse⟩ ρ2 := by
  rw [exS]
  cases q : Φ.ex x with
  | none => simp
  | some fs =>
    simp only [wp_bind, Option.some.injEq, exists_eq_left']
    refine iff_of_eq ?_
    congr 1
    funext rs ρ1
    congr 1
    funext ds ρ2
    refine propext ?_
    by_cases h : fs.length = ds.length
    · rw [if_pos h, wp_ex0 rfl]
      exact ⟨fun z => ⟨h, z⟩, fun z => z.2⟩
    · rw [if_neg h]
      exact ⟨fun z => (wp_stuck.mp z).elim, fun z => absurd z.1 h⟩
theorem wp_try {mb : M Fl} {mh : Exn → M Fl} : wpM Z (fun ρ => match mb ρ with | .exc e ρ' => mh e ρ' | r => r) ρ Q ↔ wpM (fun e ρ' => wpM Z (mh e) ρ' Q) mb ρ Q := by
  cases q : mb ρ with
  | ok a ρ' => rw [wp_ok0 (f := mb) q]; exact wp_ok0 (by simp only [q])
  | exc e ρ' => rw [wp_ex0 (f := mb) q]; unfold wpM; simp only [q]
  | stuck => rw [wp_no (f := mb) q]; exact wp_no (by simp only [q])
theorem wp_noXM {mb : M Fl} : wpM Z (fun ρ => match mb ρ with | .exc _ _ => .stuck | r => r) ρ Q ↔ wpM noX mb ρ Q := by
  cases q : mb ρ with
  | ok a ρ' => rw [wp_ok0 (f := mb) q]; exact wp_ok0 (by simp only [q])
  | exc e ρ' => rw [wp_ex0 (f := mb) q]; exact wp_no (by simp only [q])
  | stuck => rw [wp_no (f := mb) q]; exact wp_no (by simp only [q])
theorem wp_noXS {mb : M Fl} {i : Nat} : wpM Z (fun ρ => match mb ρ with | .exc _ _ => .stuck | .ok f ρ' => .ok f (ρ'.set i .non) | .stuck => .stuck) ρ Q ↔ wpM noX mb ρ fun f ρ' => Q f (ρ'.set i .non) := by
  cases q : mb ρ with
  | ok a ρ' => rw [wp_ok0 (f := mb) q]; exact wp_ok0 (by simp only [q])
  | exc e ρ' => rw [wp_ex0 (f := mb) q]; exact wp_no (by simp only [q])
  | stuck => rw [wp_no (f := mb) q]; exact wp_no (by simp only [q])
@[simp] theorem es_tryx {b : Sts} {hs : Hds} : wpM Z (exS Φ (.tryx b hs)) ρ Q ↔ wpM (fun e ρ' => wpM Z (exH Φ e hs) ρ' Q) (exSs Φ b) ρ Q := by
  rw [exS]
  exact wp_try
@[simp] theorem eh_nil {e : Exn} : wpM Z (exH Φ e .nil) ρ Q ↔ Z e ρ := by rw [exH]; exact wp_ex0 rfl
@[simp] theorem eh_none {e : Exn} {ns : List Str} {su : Sts} {r : Hds} : wpM Z (exH Φ e (.cons ns none su r)) ρ Q ↔ ∃ b, anySub Φ e.cls ns = some b ∧ (b = true → wpM noX (exSs Φ su) ρ Q) ∧ (b = false → wpM Z (exH Φ e r) ρ Q) := by
  rw [exH]
  cases q : anySub Φ e.cls ns with
  | none => simp
  | some b =>
    cases b with
    | false => simp
    | true =>
      simp only [Option.some.injEq, exists_eq_left', forall_const, Bool.true_eq_false, false_implies, and_true]
      exact wp_noXM
@[simp] theorem eh_some {e : Exn} {ns : List Str} {i : Nat} {su : Sts} {r : Hds} : wpM Z (exH Φ e (.cons ns (some i) su r)) ρ Q ↔ ∃ b, anySub Φ e.cls ns = some b ∧ (b = true → isPin ρ[i]? = false ∧ wpM noX (exSs Φ su) (ρ.set i (.st (.exn e))) fun f ρ' => Q f (ρ'.set i .non)) ∧ (b = false → wpM Z (exH Φ e r) ρ Q) := by
  rw [exH]
  cases q : anySub Φ e.cls ns with
  | none => simp
  | some b =>
    cases b with
    | false => simp
    | true =>
      simp only [Option.some.injEq, exists_eq_left', forall_const, Bool.true_eq_false, false_implies, and_true, wp_bind, wp_storeS]
      refine and_congr_right fun _ => ?_
      exact wp_noXS
def exnQ (s : Option Slot) (K : Exn → Prop) : Prop := match s with
  | some (.st (.exn e)) => K e
  | _ => False
@[simp] theorem exnQ_st {e : Exn} {K : Exn → Prop} : exnQ (some (.st (.exn e))) K ↔ K e := Iff.rfl
@[simp] theorem exnQ_val {d : D} {K : Exn → Prop} : exnQ (some (.val d)) K ↔ False := Iff.rfl
@[simp] theorem ev_isx {i : Nat} {cs : List Str} : wpM Z (evE Φ (.isx i cs)) ρ QR ↔ exnQ ρ[i]? fun e => ∃ b, anySub Φ e.cls cs = some b ∧ QR (.val (.bool b)) ρ := by
  rw [evE]
  cases q : ρ[i]? with
  | none => exact wp_no (by simp [q])
  | some s =>
    cases s with
    | non => exact wp_no (by simp [q])
    | val _ => exact wp_no (by simp [q])
    | own _ _ => exact wp_no (by simp [q])
    | st t =>
      cases t with
      | exn e =>
        rw [exnQ_st]
        cases z : anySub Φ e.cls cs with
        | none => rw [wp_no (by simp [q, z])]; simp
        | some b => rw [wp_ok0 (a := .val (.bool b)) (ρ' := ρ) (by simp [q, z])]; simp
@[simp] theorem ev_fld {i : Nat} {f : Str} : wpM Z (evE Φ (.fld i f)) ρ QR ↔ exnQ ρ[i]? fun e => ∃ d, fldV Φ e f = some d ∧ QR (.val d) ρ := by
  rw [evE]
  cases q : ρ[i]? with
  | none => exact wp_no (by simp [q])
  | some s =>
    cases s with
    | non => exact wp_no (by simp [q])
    | val _ => exact wp_no (by simp [q])
    | own _ _ => exact wp_no (by simp [q])
    | st t =>
      cases t with
      | exn e =>
        rw [exnQ_st]
        cases z : fldV Φ e f with
        | none => rw [wp_no (by simp [q, z])]; simp
        | some b => rw [wp_ok0 (a := .val b) (ρ' := ρ) (by simp [q, z])]; simp
def isNon : D → Bool
  | .none => true
  | _ => false
def isnQ (neg : Bool) (s : Option Slot) (K : Bool → Prop) : Prop := match s with
  | some (.st _) => K neg
  | some (.val d) => K (if isNon d then !neg else neg)
  | some (.own _ _) => K neg
  | _ => False
@[simp] theorem isnQ_st {neg : Bool} {t : Still} {K : Bool → Prop} : isnQ neg (some (.st t)) K ↔ K neg := Iff.rfl
@[simp] theorem isnQ_val {neg : Bool} {d : D} {K : Bool → Prop} : isnQ neg (some (.val d)) K ↔ K (if isNon d then !neg else neg) := Iff.rfl
@[simp] theorem isnQ_own {neg : Bool} {pin : Option Nat} {m : Mv} {K : Bool → Prop} : isnQ neg (some (.own pin m)) K ↔ K neg := Iff.rfl
@[simp] theorem isNon_none : isNon .none = true := rfl
@[simp] theorem isNon_int {i : Int} : isNon (.int i) = false := rfl
@[simp] theorem isNon_str {i : Str} : isNon (.str i) = false := rfl
@[simp] theorem isNon_bool {i : Bool} : isNon (.bool i) = false := rfl
@[simp] theorem isNon_tuple {i : List D} : isNon (.tuple i) = false := rfl
@[simp] theorem isNon_list {i : List D} : isNon (.list i) = false := rfl
@[simp] theorem et_isn {i : Nat} {neg : Bool} : wpM Z (evT Φ (.isn i neg)) ρ QB ↔ isnQ neg ρ[i]? fun b => QB b ρ := by
  rw [evT]
  cases q : ρ[i]? with
  | none => exact wp_no (by simp [q])
  | some s =>
    cases s with
    | non => exact wp_no (by simp [q])
    | val d => cases d <;> exact wp_ok0 (by simp [q, isNon])
    | own _ _ => exact wp_ok0 (by simp [q])
    | st t =>
      cases t with
      | exn e => exact wp_ok0 (by simp [q])
end
end PV
set_option Elab.async false
set_option linter.all false
set_option autoImplicit false
set_option maxRecDepth 100000
set_option maxHeartbeats 4000000
/-! PV: the pen that all laws draw with; small facts. -/
namespace PV
open PySem PySem.Spec PyProof.Rows L2
section
variable {Z : Exn → List Slot → Prop} {x y z v : D} {ρ : List Slot} {T : Bool → List Slot → Prop}
@[simp] theorem at3_0 : atI [x, y, z] 0 = some x := rfl
@[simp] theorem at3_1 : atI [x, y, z] 1 = some y := rfl
@[simp] theorem at3_2 : atI [x, y, z] 2 = some z := rfl
@[simp] theorem set3_1 : setV (.lst [x, y, z]) (.int 1) v = some (.lst [x, v, z]) := rfl
@[simp] theorem set3_2 : setV (.lst [x, y, z]) (.int 2) v = some (.lst [x, y, v]) := rfl
@[simp] theorem pin_non : isPin (some .non) = false := rfl
@[simp] theorem pin_val : isPin (some (.val x)) = false := rfl
@[simp] theorem pin_own {m : Mv} : isPin (some (.own none m)) = false := rfl
@[simp] theorem own_lst {p : Option Nat} {xs : List D} : isOwnL (some (.own p (.lst xs))) = true := rfl
theorem canLay_ints : ∀ l : List Int, PyData.canLayAll0 (l.map PyData.int) = true
  | [] => rfl
  | n :: l => by
    show (PyData.canLay0 (.int n) && PyData.canLayAll0 (l.map PyData.int)) = true
    rw [canLay_ints l]
    rfl
theorem depth_ints (l : List Int) : PyData.depth (.list (l.map PyData.int)) ≤ 64 := by
  cases l with
  | nil => decide
  | cons n l =>
    have h : ∀ l : List Int, PyData.depthAll (l.map PyData.int) = 0 := fun l => by
      induction l with
      | nil => rfl
      | cons n l ih => simp [PyData.depthAll, PyData.depth, ih]
    simp only [PyData.depth]
    rw [h]
    decide
theorem shaped_ints (l : List Int) : SeqAt.shaped (.list (l.map PyData.int)) = true := by
  unfold SeqAt.shaped
  rw [Bool.and_eq_true]
  exact ⟨by simp only [PyData.canLay0]; exact canLay_ints l, decide_eq_true (depth_ints l)⟩
@[simp] theorem ne_empty {l : List Int} : wpM Z (lift (cmpV .ne (.list (l.map PyData.int)) (.list []))) ρ T ↔ T (!l.isEmpty) ρ := by
  have hb : bothS (.list (l.map PyData.int)) (.list []) = false := rfl
  rw [cmp_ne, hb, Bool.false_or, lift_if]
  have h0 : SeqAt.shaped (.list []) = true := shaped_ints []
  rw [shaped_ints, h0]
  have e : PyData.eqv (.list (l.map PyData.int)) (.list []) = l.isEmpty := by cases l <;> rfl
  rw [e]
  simp
theorem at_ints {l : List Int} {i : Int} (h0 : 0 ≤ i) (h1 : i < l.length) : ∃ n, atI (l.map PyData.int) i = some (.int n) := by
  unfold atI ixN
  have : i.toNat < l.length := by omega
  refine ⟨l[i.toNat], ?_⟩
  simp [h0, h1]
end
end PV
set_option Elab.async false
set_option linter.all false
set_option autoImplicit false
set_option maxRecDepth 100000
set_option maxHeartbeats 4000000
/-! PV: more small facts for reckoning. -/
namespace PV
open PySem PySem.Spec PyProof.Rows L2
/-- a slot that holds no thing of one's own -/
def isFree : Slot → Bool
  | .own _ _ => false
  | _ => true
@[simp] theorem isFree_val {d : D} : isFree (.val d) = true := rfl
@[simp] theorem isFree_non : isFree .non = true := rfl
theorem pin_free {s : Slot} (h : isFree s = true) : isPin (some s) = false := by cases s <;> first | rfl | cases h
theorem ownFree_nil {ρ : List Slot} : ownFree ρ [] = true := rfl
theorem ownFree_cons {ρ : List Slot} {i : Nat} {is : List Nat} {s : Slot} (h : ρ[i]? = some s) (hf : isFree s = true) (hr : ownFree ρ is = true) : ownFree ρ (i :: is) = true := by
  unfold ownFree at *
  rw [List.all_cons, hr, Bool.and_true, h]
  cases s <;> first | rfl | cases hf
theorem fits_of {n : Nat} (h : n ≤ 16777216) : fitsL n = true := by
  unfold fitsL
  rw [sizeLine_eq]
  exact decide_eq_true h
theorem small_of {i : Int} (h1 : -(2 ^ 64) < i) (h2 : i < 2 ^ 64) : smallI i = true := by
  unfold smallI
  simp only [Bool.and_eq_true, decide_eq_true_eq]
  exact ⟨h1, h2⟩
mutual
theorem deq_refl : ∀ d : D, deq d d = true
  | .none => rfl
  | .bool b => by simp [deq]
  | .int b => by simp [deq]
  | .str b => by simp [deq]
  | .list xs => by simp only [deq]; exact deqs_refl xs
  | .tuple xs => by simp only [deq]; exact deqs_refl xs
  | .dict xs => by simp only [deq]; exact deqkv_refl xs
theorem deqs_refl : ∀ xs : List D, deqs xs xs = true
  | [] => rfl
  | x :: xs => by simp only [deqs, deq_refl x, deqs_refl xs, Bool.and_self]
theorem deqkv_refl : ∀ xs : List (D × D), deqkv xs xs = true
  | [] => rfl
  | (a, b) :: xs => by simp only [deqkv, deq_refl a, deq_refl b, deqkv_refl xs, Bool.and_self]
end
@[simp] theorem lock_none {ρ : List Slot} : lockOk ρ [] = true := rfl
theorem lock_own {ρ : List Slot} {i : Nat} {p : Option Nat} {xs : List D} (h : ρ[i]? = some (.own p (.lst xs))) : lockOk ρ [(i, xs)] = true := by
  simp only [lockOk, List.all_cons, List.all_nil, Bool.and_true, lock1, h]
  exact deqs_refl xs
theorem at_map {α : Type} {f : Nat → α} {n i : Nat} (h : i < n) : atI ((List.range n).map f) (i : Int) = some (f i) := by
  unfold atI ixN
  have h0 : (0 : Int) ≤ (i : Int) := Int.natCast_nonneg i
  simp [h0, h]
theorem set_map {f : Nat → D} {n i : Nat} {d : D} (h : i < n) : setV (.lst ((List.range n).map f)) (.int (i : Int)) d = some (.lst ((List.range n).map fun j => if j = i then d else f j)) := by
  have h0 : (0 : Int) ≤ (i : Int) := Int.natCast_nonneg i
  unfold setV ixN
  simp only [List.length_map, List.length_range, h0, if_true, Int.ofNat_lt, h, Int.toNat_natCast, Option.some.injEq, Mv.lst.injEq]
  refine List.ext_getElem? fun j => ?_
  rw [List.getElem?_set]
  by_cases e : i = j
  · subst e
    simp [h]
  · rw [if_neg e]
    by_cases hj : j < n
    · rw [List.getElem?_map, List.getElem?_map, List.getElem?_range hj]
      simp [Ne.symm e]
    · rw [List.getElem?_eq_none (by simp; omega), List.getElem?_eq_none (by simp; omega)]
@[simp] theorem rgD_nat {n : Nat} : rgD 0 (n : Int) = (List.range n).map fun i => .int (i : Nat) := by
  unfold rgD
  simp
theorem rgOk_nat {n : Nat} (h : n < 4611686018427387904) : rgOk 0 (n : Int) = true := by
  unfold rgOk
  simp only [Bool.and_eq_true, decide_eq_true_eq]
  omega
theorem enum_map {f : Nat → D} {n : Nat} : enumD ((List.range n).map f) = (List.range n).map fun i => .tuple [.int (i : Nat), f i] := by
  unfold enumD
  rw [List.length_map, List.length_range]
  refine List.map_congr_left fun i hi => ?_
  have := List.mem_range.mp hi
  simp [List.getD, this]
end PV
set_option Elab.async false
set_option linter.all false
set_option autoImplicit false
set_option maxRecDepth 100000
set_option maxHeartbeats 4000000
/-! PV: data that may be shown and compared. -/
namespace PV
open PySem PySem.Spec PyProof.Rows L2
/-- k bounds the depth, n the bulk -/
structure Tm (k n : Nat) (d : D) : Prop where
  sh : d.showable = true
  ls : d.leavesShort 602 = true
  dp : d.depth ≤ k
  bk : d.bulk ≤ n
theorem log2_of {i : Int} (h : i.natAbs < 10 ^ 500) : i.natAbs.log2 < 1920 := by
  by_cases z : i.natAbs = 0
  · rw [z]; decide
  · rw [Nat.log2_lt z]
    exact Nat.lt_trans h (by decide +kernel)
namespace Tm
theorem mono {k k' n n' : Nat} {d : D} (h : Tm k n d) (a : k ≤ k') (b : n ≤ n') : Tm k' n' d := ⟨h.sh, h.ls, Nat.le_trans h.dp a, Nat.le_trans h.bk b⟩
theorem none {k n : Nat} : Tm k n (.none : D) := ⟨rfl, rfl, Nat.zero_le _, Nat.zero_le _⟩
theorem bool {k n : Nat} (b : Bool) : Tm k n (.bool b : D) := ⟨rfl, rfl, Nat.zero_le _, Nat.zero_le _⟩
theorem dct0 {k n : Nat} : Tm (k + 1) n (.dict [] : D) := ⟨rfl, rfl, by simp [PyData.depth, PyData.depthKv], Nat.zero_le _⟩
theorem int {k n : Nat} {i : Int} (h : i.natAbs < 10 ^ 500) : Tm k n (.int i : D) := by
  refine ⟨decide_eq_true (log2_of h), decide_eq_true ?_, Nat.zero_le _, Nat.zero_le _⟩
  have e := int_text_length_le10 (a := i) (k := 500) (by decide) h
  have e2 : (PyData.shown (.int i)).length = (toString i).length := by
    show (Str.ofString (toString i)).length = _
    exact PyProof.Rows.ofString_length _
  omega
theorem str {k n : Nat} {x : Str} (h : x.cps.size ≤ n) (h2 : (x.cps.toList.all fun c => decide (c < 1114112)) = true) : Tm k n (.str x : D) := by
  have h2 : ∀ c ∈ x.cps.toList, c < 1114112 := by simpa only [List.all_eq_true, decide_eq_true_eq] using h2
  refine ⟨rfl, ?_, Nat.zero_le _, h⟩
  simp only [PyData.leavesShort, List.all_eq_true, decide_eq_true_eq]
  intro c hc
  have := h2 c hc
  omega
theorem all {k n : Nat} : ∀ {xs : List D}, (∀ x ∈ xs, Tm k n x) → PyData.showableAll xs = true ∧ PyData.leavesShortAll 602 xs = true ∧ PyData.depthAll xs ≤ k ∧ PyData.bulkAll xs ≤ xs.length * (n + 1)
  | [], _ => ⟨rfl, rfl, Nat.zero_le _, Nat.zero_le _⟩
  | x :: xs, h => by
    obtain ⟨h1, h2, h3, h4⟩ := h x (.head _)
    obtain ⟨k1, k2, k3, k4⟩ := all (xs := xs) fun y hy => h y (.tail _ hy)
    refine ⟨by simp only [PyData.showableAll, h1, k1, Bool.and_self], by simp only [PyData.leavesShortAll, h2, k2, Bool.and_self], by simp only [PyData.depthAll]; omega, ?_⟩
    simp only [PyData.bulkAll, List.length_cons, Nat.add_mul]
    omega
theorem tup {k n m : Nat} {xs : List D} (h : ∀ x ∈ xs, Tm k n x) (hm : xs.length * (n + 1) ≤ m) : Tm (k + 1) m (.tuple xs : D) := by
  obtain ⟨k1, k2, k3, k4⟩ := all h
  exact ⟨by simpa only [PyData.showable] using k1, by simpa only [PyData.leavesShort] using k2, by simp only [PyData.depth]; omega, by simp only [PyData.bulk]; omega⟩
theorem lst {k n m : Nat} {xs : List D} (h : ∀ x ∈ xs, Tm k n x) (hm : xs.length * (n + 1) ≤ m) : Tm (k + 1) m (.list xs : D) := by
  obtain ⟨k1, k2, k3, k4⟩ := all h
  exact ⟨by simpa only [PyData.showable] using k1, by simpa only [PyData.leavesShort] using k2, by simp only [PyData.depth]; omega, by simp only [PyData.bulk]; omega⟩
theorem repr {k n : Nat} {d : D} (h : Tm k n d) (hk : k ≤ 64) (hn : n ≤ 20000) : reprOk d = true := by
  have e := PyData.shown_le_bulk 602 (by decide) d h.ls
  have hb := h.bk
  unfold reprOk
  rw [h.sh]
  simp only [Bool.true_and, Bool.and_eq_true, decide_eq_true_eq]
  refine ⟨Nat.le_trans h.dp hk, fits_of ?_⟩
  omega
theorem strLen {k n : Nat} {x : Str} (h : Tm k n (.str x)) : x.length ≤ n := h.bk
theorem len_of : ∀ {xs : List D}, xs.length ≤ PyData.bulkAll xs
  | [] => Nat.le_refl _
  | x :: xs => by have := len_of (xs := xs); simp only [List.length_cons, PyData.bulkAll]; omega
theorem tupLen {k n : Nat} {xs : List D} (h : Tm k n (.tuple xs)) : xs.length ≤ n := Nat.le_trans len_of h.bk
theorem lstLen {k n : Nat} {xs : List D} (h : Tm k n (.list xs)) : xs.length ≤ n := Nat.le_trans len_of h.bk
end Tm
end PV
namespace PV
open PySem PySem.Spec PyProof.Rows L2
/-! ### calls of defs that look at data alone -/
theorem argsOf_vals {ρ : List Slot} : ∀ (ds : List D) (k : Nat), argsOf ρ k (ds.map Rv.val) = some (ds.map Slot.val)
  | [], _ => by simp [argsOf]
  | d :: ds, k => by simp [argsOf, argOf, argsOf_vals ds (k + 1)]
theorem backOf_vals {ρ : List Slot} : ∀ (ds : List D), backOf (ds.map Rv.val) (ds.map Slot.val) ρ = some ρ
  | [] => rfl
  | d :: ds => by simp [backOf, backOf_vals ds]
theorem bor_vals {ρ : List Slot} (ds : List D) : borNodup ρ (ds.map Rv.val) = true := by
  unfold borNodup
  refine decide_eq_true ?_
  induction ds with
  | nil => exact List.nodup_nil
  | cons d ds ih => simpa using ih
/-- what a def of data leads to: data, a new thing, an error -/
inductive Out where
  | val (d : D)
  | fr (m : Mv)
  | exc (e : Exn)
def Out.Q (o : Out) (Z : Exn → List Slot → Prop) (Q : Rv → List Slot → Prop) (ρ : List Slot) : Prop := match o with
  | .val d => Q (.val d) ρ
  | .fr m => Q (.fr m) ρ
  | .exc e => Z e ρ
@[simp] theorem outQ_val {d : D} {Z : Exn → List Slot → Prop} {Q : Rv → List Slot → Prop} {ρ : List Slot} : Out.Q (.val d) Z Q ρ ↔ Q (.val d) ρ := Iff.rfl
@[simp] theorem outQ_fr {d : Mv} {Z : Exn → List Slot → Prop} {Q : Rv → List Slot → Prop} {ρ : List Slot} : Out.Q (.fr d) Z Q ρ ↔ Q (.fr d) ρ := Iff.rfl
@[simp] theorem outQ_exc {d : Exn} {Z : Exn → List Slot → Prop} {Q : Rv → List Slot → Prop} {ρ : List Slot} : Out.Q (.exc d) Z Q ρ ↔ Z d ρ := Iff.rfl
def Out.FR (o : Out) (as : List Slot) : FR := match o with
  | .val d => .ok (.val d) as
  | .fr m => .ok (.fr m) as
  | .exc e => .exc e as
/-- from what holds of every wish -/
theorem eq_of_out {S : FSem} {as : List Slot} {kw : List (Str × D)} {o : Out} (h : ∀ Z Q, o.Q Z Q as → wpF Z S as kw Q) : S as kw = o.FR as := by
  cases o with
  | val d =>
    have z := h noX (fun x y => x = .val d ∧ y = as) ⟨rfl, rfl⟩
    unfold wpF at z
    cases q : S as kw with
    | ok r as' => rw [q] at z; obtain ⟨rfl, rfl⟩ := z; rfl
    | exc e as' => rw [q] at z; exact z.elim
    | stuck => rw [q] at z; exact z.elim
  | fr d =>
    have z := h noX (fun x y => x = .fr d ∧ y = as) ⟨rfl, rfl⟩
    unfold wpF at z
    cases q : S as kw with
    | ok r as' => rw [q] at z; obtain ⟨rfl, rfl⟩ := z; rfl
    | exc e as' => rw [q] at z; exact z.elim
    | stuck => rw [q] at z; exact z.elim
  | exc x =>
    have z := h (fun y z => y = x ∧ z = as) (fun _ _ => False) ⟨rfl, rfl⟩
    unfold wpF at z
    cases q : S as kw with
    | ok r as' => rw [q] at z; exact z.elim
    | exc e as' => rw [q] at z; obtain ⟨rfl, rfl⟩ := z; rfl
    | stuck => rw [q] at z; exact z.elim
theorem callO {S : FSem} (ds : List D) (ks : List Str) (zs : List D) {o : Out} {ρ : List Slot} {Z : Exn → List Slot → Prop} {Q : Rv → List Slot → Prop} (h : ∀ Z Q, o.Q Z Q (ds.map .val) → wpF Z S (ds.map .val) (ks.zip zs) Q) : wpM Z (callM S (ds.map .val) ks zs) ρ Q ↔ o.Q Z Q ρ := by
  have e := eq_of_out h
  cases o with
  | val d => exact wp_ok0 (by unfold callM; rw [bor_vals, argsOf_vals]; simp only [e, Out.FR, backOf_vals])
  | fr d => exact wp_ok0 (by unfold callM; rw [bor_vals, argsOf_vals]; simp only [e, Out.FR, backOf_vals])
  | exc d => exact wp_ex0 (by unfold callM; rw [bor_vals, argsOf_vals]; simp only [e, Out.FR, backOf_vals])
section
variable {Z : Exn → List Slot → Prop} {ρ : List Slot} {Q : Rv → List Slot → Prop}
theorem callV {S : FSem} (ds : List D) {d : D} (h : ∀ Z Q, Q (.val d) (ds.map .val) → wpF Z S (ds.map .val) [] Q) : wpM Z (callM S (ds.map .val) [] []) ρ Q ↔ Q (.val d) ρ := callO (o := .val d) ds [] [] h
theorem callF {S : FSem} (ds : List D) {m : Mv} (h : ∀ Z Q, Q (.fr m) (ds.map .val) → wpF Z S (ds.map .val) [] Q) : wpM Z (callM S (ds.map .val) [] []) ρ Q ↔ Q (.fr m) ρ := callO (o := .fr m) ds [] [] h
theorem callVK {S : FSem} (ds : List D) (ks : List Str) (zs : List D) {d : D} (h : ∀ Z Q, Q (.val d) (ds.map .val) → wpF Z S (ds.map .val) (ks.zip zs) Q) : wpM Z (callM S (ds.map .val) ks zs) ρ Q ↔ Q (.val d) ρ := callO (o := .val d) ds ks zs h
theorem callFK {S : FSem} (ds : List D) (ks : List Str) (zs : List D) {m : Mv} (h : ∀ Z Q, Q (.fr m) (ds.map .val) → wpF Z S (ds.map .val) (ks.zip zs) Q) : wpM Z (callM S (ds.map .val) ks zs) ρ Q ↔ Q (.fr m) ρ := callO (o := .fr m) ds ks zs h
end
end PV
set_option Elab.async false
set_option linter.all false
set_option autoImplicit false
set_option maxRecDepth 100000
set_option maxHeartbeats 4000000
/-! PV: comprehensions and loops of common shapes. -/
namespace PV
open PySem PySem.Spec PyProof.Rows L2
theorem set_set {α : Type} {l : List α} {i : Nat} {a b : α} : (l.set i a).set i b = l.set i b := by rw [List.set_set]
theorem back_one {ρ : List Slot} {i : Nat} {s : Slot} : backS ρ (ρ.set i s) [i] = ρ := by
  unfold backS
  simp only [List.foldl_cons, List.foldl_nil]
  cases h : ρ[i]? with
  | none =>
    have hi : ρ.length ≤ i := List.getElem?_eq_none_iff.mp h
    rw [List.set_eq_of_length_le hi]
  | some z =>
    simp only
    rw [List.set_set]
    have hi : i < ρ.length := (List.getElem?_eq_some_iff.mp h).1
    have e : ρ[i] = z := (List.getElem?_eq_some_iff.mp h).2
    rw [← e, List.set_getElem_self]
/-- what is walked, and that it stands -/
def WkAt (ρ : List Slot) (i : Nat) (xs : List D) (w : Walked) : Prop := w.items = xs ∧ (w.lock = [] ∨ ∃ j p, w.lock = [(j, xs)] ∧ j ≠ i ∧ ρ[j]? = some (.own p (.lst xs)))
theorem WkAt.lk {ρ : List Slot} {i : Nat} {xs : List D} {w : Walked} (h : WkAt ρ i xs w) {s : Slot} : lockOk (ρ.set i s) w.lock = true := by
  rcases h.2 with e | ⟨j, p, e, ne, hj⟩
  · rw [e]; rfl
  · rw [e]
    exact lock_own (by rw [List.getElem?_set_ne (fun z => ne z.symm)]; exact hj)
theorem WkAt.out {ρ : List Slot} {i : Nat} {xs : List D} {w : Walked} (h : WkAt ρ i xs w) : lkOut w.lock [i] = true := by
  rcases h.2 with e | ⟨j, p, e, ne, hj⟩
  · rw [e]; rfl
  · rw [e]
    simp [lkOut, ne]
section
variable {Z : Exn → List Slot → Prop} {Φ : Env'} {ρ : List Slot} {Q : Rv → List Slot → Prop}
/-- a comprehension whose parts change nothing -/
theorem lc_map {x : Str} {i : Nat} {elt : Ex} {it : Itr'} {tt : Tes} {xs : List D} (p : D → Bool) (f : D → D)
    (hit : wpM Z (evI Φ it) ρ fun w ρ1 => WkAt ρ i xs w ∧ ρ1 = ρ) (hi : isPin ρ[i]? = false) (hf : ownFree ρ [i] = true)
    (htest : ∀ d ∈ xs, ∀ R : Bool → List Slot → Prop, R (p d) (ρ.set i (.val d)) → wpM noX (evAnd Φ tt) (ρ.set i (.val d)) R)
    (helt : ∀ d ∈ xs, p d = true → ∀ R : D → List Slot → Prop, R (f d) (ρ.set i (.val d)) → wpM noX (evE Φ elt) (ρ.set i (.val d)) fun r ρ' => wpM noX (frz r) ρ' R)
    (hl : xs.length ≤ 16777216) (h : Q (.fr (.lst ((xs.filter p).map f))) ρ) : wpM Z (evE Φ (.lc [(x, i)] elt (.nm i) it tt)) ρ Q := by
  refine lc_inv (hit.mono fun w ρ1 ⟨hw, e1⟩ => ?_)
  subst e1
  refine ⟨hf, hw.out, fun k acc ρ2 => ρ2 = ρ1.set i .non ∧ acc = ((xs.take k).filter p).map f, ⟨rfl, rfl⟩, ?_, ?_, ?_⟩
  · rintro k acc ρ2 _ ⟨e, _⟩
    subst e
    exact hw.lk
  · rintro k d acc ρ2 hd ⟨e, ea⟩
    subst e ea
    rw [hw.1] at hd
    have hm : d ∈ xs := List.mem_of_getElem? hd
    have hk := (List.getElem?_eq_some_iff.mp hd).1
    have htk : xs.take (k + 1) = xs.take k ++ [d] := by rw [List.take_add_one, hd]; rfl
    rw [put_nm, wp_storeV]
    have pin : isPin (ρ1.set i .non)[i]? = false := by
      by_cases z : i < ρ1.length
      · rw [List.getElem?_set_self z]; rfl
      · rw [List.getElem?_eq_none (by simp; omega)]; rfl
    refine ⟨pin, ?_⟩
    rw [List.set_set]
    refine htest d hm _ ⟨fun e => ?_, fun e => ?_⟩
    · refine helt d hm e _ ⟨?_, ?_, ?_⟩
      · rw [sizeLine_eq, List.length_map]
        have := List.length_filter_le p (xs.take k)
        rw [List.length_take] at this
        omega
      · show (ρ1.set i (.val d)).set i .non = _
        rw [List.set_set]
      · rw [htk, List.filter_append, List.map_append]
        simp [e]
    · refine ⟨?_, ?_⟩
      · show (ρ1.set i (.val d)).set i .non = _
        rw [List.set_set]
      · rw [htk, List.filter_append, List.map_append]
        simp [e]
  · rintro acc ρ2 ⟨e, ea⟩
    subst e ea
    rw [hw.1, List.take_length]
    show Q _ (backS ρ1 (ρ1.set i .non) [i])
    rw [back_one]
    exact h
theorem ei_val {j i : Nat} {d : D} {xs : List D} (hj : ρ[j]? = some (.val d)) (hx : itemsOf d = some xs) : wpM Z (evI Φ (.ex (.var j))) ρ fun w ρ1 => WkAt ρ i xs w ∧ ρ1 = ρ := by
  rw [ei_ex, wp_var, hj]
  exact ⟨d, xs, rfl, hx, ⟨rfl, .inl rfl⟩, rfl⟩
theorem ei_own {j i : Nat} {p : Option Nat} {xs : List D} (hj : ρ[j]? = some (.own p (.lst xs))) (ne : j ≠ i) : wpM Z (evI Φ (.ex (.var j))) ρ fun w ρ1 => WkAt ρ i xs w ∧ ρ1 = ρ := by
  rw [ei_ex, wp_var, hj]
  refine ⟨.list xs, xs, ?_, rfl, ⟨rfl, .inr ⟨j, p, ?_, ne, hj⟩⟩, rfl⟩
  · simp [cont, hj, Mv.d]
  · simp [lockOf, hj]
end
/-- all of bools -/
theorem boolsOf_mapB : ∀ l : List Bool, boolsOf (l.map PyData.bool) = some l
  | [] => rfl
  | b :: l => by simp [boolsOf, boolsOf_mapB l]
theorem bi_all {l : List D} {p : D → Bool} : biV .all [.list (l.map fun d => .bool (p d))] = some (.val (.bool (l.all p))) := by
  have e : l.map (fun d => PyData.bool (p d)) = (l.map p).map PyData.bool := by rw [List.map_map]; rfl
  have u : ∀ L : List D, biV .all [.list L] = (match boolsOf L with | some bs => some (.val (.bool (bs.all id))) | none => none) := fun L => rfl
  rw [u, e, boolsOf_mapB]
  simp
section
variable {Z : Exn → List Slot → Prop} {l : List D} {ρ : List Slot} {T : Bool → List Slot → Prop}
@[simp] theorem eqOks_nil : eqOks l [] = true := by cases l <;> rfl
@[simp] theorem eq_nil : wpM Z (lift (cmpV .eq (.list l) (.list []))) ρ T ↔ T l.isEmpty ρ := by
  have hz : eqD (.list l) (.list []) = true := by simp [eqD, eqOk, PyData.depth, PyData.depthAll]
  have e : PyData.eqv (.list l) (.list []) = l.isEmpty := by cases l <;> rfl
  rw [cmp_eq, hz, Bool.or_true, e, wp_lift]
  exact ⟨fun ⟨a, h1, h2⟩ => by cases h1; exact h2, fun h => ⟨_, rfl, h⟩⟩
@[simp] theorem ne_nil : wpM Z (lift (cmpV .ne (.list l) (.list []))) ρ T ↔ T (!l.isEmpty) ρ := by
  have hz : neD (.list l) (.list []) = true := by simp [neD, eqD, eqOk, isSq, PyData.depth, PyData.depthAll]
  have e : PyData.eqv (.list l) (.list []) = l.isEmpty := by cases l <;> rfl
  rw [cmp_ne, hz, Bool.or_true, e, wp_lift]
  exact ⟨fun ⟨a, h1, h2⟩ => by cases h1; exact h2, fun h => ⟨_, rfl, h⟩⟩
end
end PV
set_option Elab.async false
set_option linter.all false
set_option autoImplicit false
set_option maxRecDepth 100000
set_option maxHeartbeats 8000000
/-! PV: the four ways in which the laws draw. -/
namespace PV
open PySem PySem.Spec PyProof.Rows L2
/-- the pen: the script's cells, how many were begun, the rest of a great one -/
def Pen (cells : List Int) (a g : Int) : List D := [.list (cells.map .int), .int a, .int g]
/-- what a draw is worth -/
def DrawOk (S : FSem) : Prop := ∀ (cells : List Int) (a g c : Int) (Z : Exn → List Slot → Prop) (Q : Rv → List Slot → Prop), 0 ≤ a → a ≤ 1000000 → 0 ≤ g → 0 < c → c < 1000000 →
  (∀ v a' g', 0 ≤ v → v < c → 0 ≤ a' → a' ≤ a + 1 → 0 ≤ g' → Q (.val (.int v)) [.own (some 0) (.lst (Pen cells a' g')), .val (.int c)]) →
  wpF Z S [.own (some 0) (.lst (Pen cells a g)), .val (.int c)] [] Q
/-- a coefficient, a modulus -/
def Cf (n : Int) : Prop := 0 ≤ n ∧ n ≤ 200000
def Md (n : Int) : Prop := 1000 < n ∧ n ≤ 2147483648
theorem mul_b {x y X Y : Int} (h1 : 0 ≤ x) (h2 : x ≤ X) (h3 : 0 ≤ y) (h4 : y ≤ Y) : 0 ≤ x * y ∧ x * y ≤ X * Y :=
  ⟨Int.mul_nonneg h1 h3, Int.mul_le_mul h2 h4 h3 (by omega)⟩
theorem mod_b {x m : Int} (h : Md m) : 0 ≤ x % m ∧ x % m < 2147483648 :=
  ⟨Int.emod_nonneg _ (by have := h.1; omega), by have := Int.emod_lt_of_pos x (show 0 < m by have := h.1; omega); have := h.2; omega⟩
theorem sm_mod {x n y : Int} (h : Md n) : smallI (x % n) = true ∨ smallI y = true := .inl (small_of (by have := mod_b (x := x) h; omega) (by have := mod_b (x := x) h; omega))
/-- not too great -/
def Bd (x : Int) : Prop := 0 ≤ x ∧ x ≤ 1000000000000000000
theorem Bd.sm {x : Int} (h : Bd x) : smallI x = true := small_of (by have := h.1; omega) (by have := h.2; omega)
theorem nb1 {x n A : Int} (h : Md n) (a : Bd A) : (x % n + A).natAbs < 18446744073709551616 := by have := mod_b (x := x) h; have := a.1; have := a.2; omega
theorem nb2 {x n A B : Int} (h : Md n) (a : Bd A) (b : Bd B) : (x % n + A + B).natAbs < 18446744073709551616 := by have := mod_b (x := x) h; have := a.1; have := a.2; have := b.1; have := b.2; omega
theorem nb3 {x n A B C : Int} (h : Md n) (a : Bd A) (b : Bd B) (c : Bd C) : (x % n + A + B + C).natAbs < 18446744073709551616 := by have := mod_b (x := x) h; have := a.1; have := a.2; have := b.1; have := b.2; have := c.1; have := c.2; omega
theorem mm_b {x n y : Int} (h : Md n) (hy : 0 ≤ y ∧ y ≤ 3000000) : Bd (x % n * y) := by
  have m := mod_b (x := x) h
  have z := mul_b m.1 (show x % n ≤ 2147483648 by omega) hy.1 hy.2
  exact ⟨z.1, by omega⟩
theorem nbm1 {x n y A : Int} (h : Md n) (hy : 0 ≤ y ∧ y ≤ 3000000) (a : Bd A) : (x % n * y + A).natAbs < 18446744073709551616 := by have k := mm_b (x := x) h hy; have := k.1; have := k.2; have := a.1; have := a.2; omega
theorem nbm2 {x n y A B : Int} (h : Md n) (hy : 0 ≤ y ∧ y ≤ 3000000) (a : Bd A) (b : Bd B) : (x % n * y + A + B).natAbs < 18446744073709551616 := by have k := mm_b (x := x) h hy; have := k.1; have := k.2; have := a.1; have := a.2; have := b.1; have := b.2; omega
@[simp] theorem isOwn_own {p : Option Nat} {m : Mv} : isOwn (some (.own p m)) = true := rfl
def drawB (n1 n2 n3 n4 n5 n6 n7 n8 n10 n11 n12 n13 n14 : Int) : Sts :=
    (.cons (.ife (.cmp .gt (.idx (.var 0) (.cst (.int 2))) (.cst (.int 0))) (.cons (.asg (.nm 5) (.bin .mod (.idx (.var 0) (.cst (.int 2))) (.var 1)))
    (.cons (.setI 0 (.cst (.int 2)) (.bin .fdiv (.idx (.var 0) (.cst (.int 2))) (.var 1)))
    (.cons (.ret (.var 5))
    .nil))) .nil)
    (.cons (.asg (.nm 2) (.idx (.var 0) (.cst (.int 1))))
    (.cons (.setI 0 (.cst (.int 1)) (.bin .add (.var 2) (.cst (.int 1))))
    (.cons (.asg (.nm 3) (.bin .add (.bin .mul (.cst (.int n1)) (.var 2)) (.cst (.int n2))))
    (.cons (.ife (.cmp .ne (.idx (.var 0) (.cst (.int 0))) (.lst .nil)) (.cons (.asg (.nm 3) (.idx (.idx (.var 0) (.cst (.int 0))) (.bin .mod (.var 2) (.bi .len (.cons (.idx (.var 0) (.cst (.int 0))) .nil)))))
    .nil) .nil)
    (.cons (.ife (.and (.cons (.cmp .lt (.var 2) (.bi .len (.cons (.idx (.var 0) (.cst (.int 0))) .nil))) (.cons (.cmp .ge (.bi .abs (.cons (.var 3) .nil)) (.bin .pow (.cst (.int 10)) (.cst (.int 18)))) .nil))) (.cons (.asg (.nm 6) (.bin .add (.bin .mul (.cst (.int 2)) (.bi .abs (.cons (.var 3) .nil))) (.bi .int (.cons (.cmp .lt (.var 3) (.cst (.int 0))) .nil))))
    (.cons (.setI 0 (.cst (.int 2)) (.bin .fdiv (.var 6) (.var 1)))
    (.cons (.ret (.bin .mod (.var 6) (.var 1)))
    .nil))) .nil)
    (.cons (.asg (.nm 4) (.bin .mod (.bin .pow (.bin .add (.bin .add (.bin .mod (.var 3) (.cst (.int n3))) (.bin .mul (.cst (.int n4)) (.var 2))) (.cst (.int n5))) (.cst (.int 3))) (.cst (.int n6))))
    (.cons (.asg (.nm 4) (.bin .mod (.bin .pow (.bin .add (.bin .add (.var 4) (.bin .mul (.bin .mul (.cst (.int n7)) (.var 2)) (.var 2))) (.cst (.int n8))) (.cst (.int 5))) (.cst (.int n10))))
    (.cons (.ret (.bin .mod (.bin .fdiv (.bin .mod (.bin .add (.bin .mul (.var 4) (.bin .add (.bin .mul (.cst (.int 2)) (.var 2)) (.cst (.int n11)))) (.cst (.int n12))) (.cst (.int n13))) (.cst (.int n14))) (.var 1)))
    .nil)))))))))
theorem drawB_ok {Φ : Env'} {B : Nat → List (Str × D) → Option (List D)} (hB : B 2 [] = some []) {n1 n2 n3 n4 n5 n6 n7 n8 n10 n11 n12 n13 n14 : Int} (h1 : Cf n1) (h2 : Cf n2) (h4 : Cf n4) (h5 : Cf n5) (h7 : Cf n7) (h8 : Cf n8) (h11 : Cf n11) (h12 : Cf n12) (h3 : Md n3) (h6 : Md n6) (h10 : Md n10) (h13 : Md n13) (h14 : 0 < n14 ∧ n14 < 1000) : DrawOk (semF Φ 7 B (drawB n1 n2 n3 n4 n5 n6 n7 n8 n10 n11 n12 n13 n14)) := by
  intro cells a g c Z Q ha ha2 hg hc hc2 h
  unfold Pen at *
  refine wp_def (ext := []) hB ?_
  unfold drawB
  obtain ⟨p1, q1⟩ := h1
  obtain ⟨p2, q2⟩ := h2
  obtain ⟨p4, q4⟩ := h4
  obtain ⟨p5, q5⟩ := h5
  obtain ⟨p7, q7⟩ := h7
  obtain ⟨p8, q8⟩ := h8
  obtain ⟨p11, q11⟩ := h11
  obtain ⟨p12, q12⟩ := h12
  obtain ⟨p3, q3⟩ := h3
  obtain ⟨p6, q6⟩ := h6
  obtain ⟨p10, q10⟩ := h10
  obtain ⟨p13, q13⟩ := h13
  obtain ⟨p14, q14⟩ := h14
  simp
  have aa := mul_b ha ha2 ha ha2
  have l1 := mul_b p1 q1 ha ha2
  have l2 := mul_b p2 q2 ha ha2
  have l4 := mul_b p4 q4 ha ha2
  have l5 := mul_b p5 q5 ha ha2
  have l7 := mul_b p7 q7 ha ha2
  have l8 := mul_b p8 q8 ha ha2
  have l11 := mul_b p11 q11 ha ha2
  have l12 := mul_b p12 q12 ha ha2
  have s7 := mul_b l7.1 l7.2 ha ha2
  have m3 : ∀ x : Int, 0 ≤ x % n3 ∧ x % n3 < 2147483648 := fun x => mod_b ⟨p3, q3⟩
  have m6 : ∀ x : Int, 0 ≤ x % n6 ∧ x % n6 < 2147483648 := fun x => mod_b ⟨p6, q6⟩
  have m10 : ∀ x : Int, 0 ≤ x % n10 ∧ x % n10 < 2147483648 := fun x => mod_b ⟨p10, q10⟩
  have m13 : ∀ x : Int, 0 ≤ x % n13 ∧ x % n13 < 2147483648 := fun x => mod_b ⟨p13, q13⟩
  have b1 : Bd n1 := ⟨p1, by omega⟩
  have c1 : Bd (n1 * a) := ⟨l1.1, by omega⟩
  have b2 : Bd n2 := ⟨p2, by omega⟩
  have c2 : Bd (n2 * a) := ⟨l2.1, by omega⟩
  have b4 : Bd n4 := ⟨p4, by omega⟩
  have c4 : Bd (n4 * a) := ⟨l4.1, by omega⟩
  have b5 : Bd n5 := ⟨p5, by omega⟩
  have c5 : Bd (n5 * a) := ⟨l5.1, by omega⟩
  have b7 : Bd n7 := ⟨p7, by omega⟩
  have c7 : Bd (n7 * a) := ⟨l7.1, by omega⟩
  have b8 : Bd n8 := ⟨p8, by omega⟩
  have c8 : Bd (n8 * a) := ⟨l8.1, by omega⟩
  have b11 : Bd n11 := ⟨p11, by omega⟩
  have c11 : Bd (n11 * a) := ⟨l11.1, by omega⟩
  have b12 : Bd n12 := ⟨p12, by omega⟩
  have c12 : Bd (n12 * a) := ⟨l12.1, by omega⟩
  have d7 : Bd (n7 * a * a) := ⟨s7.1, by omega⟩
  have e3 : Md n3 := ⟨p3, q3⟩
  have e6 : Md n6 := ⟨p6, q6⟩
  have e10 : Md n10 := ⟨p10, q10⟩
  have e13 : Md n13 := ⟨p13, q13⟩
  have ba : Bd a := ⟨ha, by omega⟩
  have gr : ∀ n : Int, (1000000000000000000 ≤ if n < 0 then -n else n) → 0 ≤ (2 * (if n < 0 then -n else n) + if n < 0 then 1 else 0) / c := fun n hn => Int.ediv_nonneg (by split at hn <;> (try split) <;> omega) (by omega)
  have fin : ∀ {v a' g' : Int} (r : List Slot), 0 ≤ v → v < c → 0 ≤ a' → a' ≤ a + 1 → 0 ≤ g' → ∃ as', outArgs 0 [Slot.own (some 0) (Mv.lst [PyData.list (List.map PyData.int cells), PyData.int a, PyData.int g]), Slot.val (PyData.int c)]
      (Slot.own (some 0) (Mv.lst [PyData.list (List.map PyData.int cells), PyData.int a', PyData.int g']) :: Slot.val (PyData.int c) :: r) = some as' ∧ Q (Rv.val (PyData.int v)) (List.take 2 as') := fun r h1 h2 h3 h4 h5 => ⟨_, rfl, h _ _ _ h1 h2 h3 h4 h5⟩
  refine ⟨fun h1 => ⟨hc, ⟨hc, by omega⟩, fin _ (Int.emod_nonneg _ (by omega)) (Int.emod_lt_of_pos _ hc) ha (by omega) (Int.ediv_nonneg hg (by omega))⟩, fun h1 => ⟨.inr ba.sm, by decide, fun hne => ?_, fun he => ?_⟩⟩
  · have hl : 0 < cells.length := List.length_pos_iff.mpr hne
    obtain ⟨n, hn⟩ := at_ints (l := cells) (i := a % cells.length) (Int.emod_nonneg _ (by omega)) (Int.emod_lt_of_pos _ (by omega))
    refine ⟨hl, ?_⟩
    rw [hn]
    simp
    repeat' (first | (refine And.intro ?_ ?_) | intro _)
    all_goals first
      | exact hc
      | rfl
      | omega
      | exact nb2 e3 c4 b5
      | exact nb2 e6 d7 b8
      | exact sm_mod e10
      | exact .inr c7.sm
      | exact .inr ba.sm
      | exact fin _ (Int.emod_nonneg _ (by omega)) (Int.emod_lt_of_pos _ hc) (by omega) (by omega) hg
      | exact fin _ (Int.emod_nonneg _ (by omega)) (Int.emod_lt_of_pos _ hc) (by omega) (by omega) (gr _ (by assumption))
      | exact .inl (by decide)
  · skip
    repeat' (first | (refine And.intro ?_ ?_) | intro _)
    all_goals first
      | exact hc
      | rfl
      | omega
      | exact nb2 e3 c4 b5
      | exact nb2 e6 d7 b8
      | exact sm_mod e10
      | exact .inr c7.sm
      | exact .inr ba.sm
      | exact fin _ (Int.emod_nonneg _ (by omega)) (Int.emod_lt_of_pos _ hc) (by omega) (by omega) hg
      | exact fin _ (Int.emod_nonneg _ (by omega)) (Int.emod_lt_of_pos _ hc) (by omega) (by omega) (gr _ (by assumption))
      | exact .inl (by decide)
def drawC (n1 n2 n3 n4 n5 n6 n7 n8 n9 n11 n12 : Int) : Sts :=
    (.cons (.ife (.cmp .gt (.idx (.var 0) (.cst (.int 2))) (.cst (.int 0))) (.cons (.asg (.nm 6) (.bin .mod (.idx (.var 0) (.cst (.int 2))) (.var 1)))
    (.cons (.setI 0 (.cst (.int 2)) (.bin .fdiv (.idx (.var 0) (.cst (.int 2))) (.var 1)))
    (.cons (.ret (.var 6))
    .nil))) .nil)
    (.cons (.asg (.nm 2) (.idx (.var 0) (.cst (.int 1))))
    (.cons (.setI 0 (.cst (.int 1)) (.bin .add (.var 2) (.cst (.int 1))))
    (.cons (.asg (.nm 3) (.bin .add (.bin .mul (.cst (.int n1)) (.var 2)) (.cst (.int n2))))
    (.cons (.ife (.cmp .ne (.idx (.var 0) (.cst (.int 0))) (.lst .nil)) (.cons (.asg (.nm 3) (.idx (.idx (.var 0) (.cst (.int 0))) (.bin .mod (.var 2) (.bi .len (.cons (.idx (.var 0) (.cst (.int 0))) .nil)))))
    .nil) .nil)
    (.cons (.ife (.and (.cons (.cmp .lt (.var 2) (.bi .len (.cons (.idx (.var 0) (.cst (.int 0))) .nil))) (.cons (.cmp .ge (.bi .abs (.cons (.var 3) .nil)) (.bin .pow (.cst (.int 10)) (.cst (.int 18)))) .nil))) (.cons (.asg (.nm 7) (.bin .add (.bin .mul (.cst (.int 2)) (.bin .sub (.bi .abs (.cons (.var 3) .nil)) (.bin .pow (.cst (.int 10)) (.cst (.int 18))))) (.bi .int (.cons (.cmp .lt (.var 3) (.cst (.int 0))) .nil))))
    (.cons (.setI 0 (.cst (.int 2)) (.bin .fdiv (.var 7) (.var 1)))
    (.cons (.ret (.bin .mod (.var 7) (.var 1)))
    .nil))) .nil)
    (.cons (.asg (.nm 4) (.bin .mod (.bin .pow (.bin .add (.bin .add (.bin .add (.bin .mod (.var 3) (.cst (.int n3))) (.bin .mul (.bin .mul (.cst (.int n4)) (.var 2)) (.var 2))) (.bin .mul (.cst (.int n5)) (.var 2))) (.cst (.int n6))) (.cst (.int 3))) (.cst (.int n7))))
    (.cons (.asg (.nm 5) (.bin .mod (.bin .pow (.bin .add (.bin .mul (.var 4) (.bin .add (.bin .mul (.cst (.int 2)) (.var 2)) (.cst (.int n8)))) (.cst (.int n9))) (.cst (.int 5))) (.cst (.int n11))))
    (.cons (.ret (.bin .mod (.bin .fdiv (.var 5) (.cst (.int n12))) (.var 1)))
    .nil)))))))))
theorem drawC_ok {Φ : Env'} {B : Nat → List (Str × D) → Option (List D)} (hB : B 2 [] = some []) {n1 n2 n3 n4 n5 n6 n7 n8 n9 n11 n12 : Int} (h1 : Cf n1) (h2 : Cf n2) (h4 : Cf n4) (h5 : Cf n5) (h6 : Cf n6) (h8 : Cf n8) (h9 : Cf n9) (h3 : Md n3) (h7 : Md n7) (h11 : Md n11) (h12 : 0 < n12 ∧ n12 < 1000) : DrawOk (semF Φ 8 B (drawC n1 n2 n3 n4 n5 n6 n7 n8 n9 n11 n12)) := by
  intro cells a g c Z Q ha ha2 hg hc hc2 h
  unfold Pen at *
  refine wp_def (ext := []) hB ?_
  unfold drawC
  obtain ⟨p1, q1⟩ := h1
  obtain ⟨p2, q2⟩ := h2
  obtain ⟨p4, q4⟩ := h4
  obtain ⟨p5, q5⟩ := h5
  obtain ⟨p6, q6⟩ := h6
  obtain ⟨p8, q8⟩ := h8
  obtain ⟨p9, q9⟩ := h9
  obtain ⟨p3, q3⟩ := h3
  obtain ⟨p7, q7⟩ := h7
  obtain ⟨p11, q11⟩ := h11
  obtain ⟨p12, q12⟩ := h12
  simp
  have aa := mul_b ha ha2 ha ha2
  have l1 := mul_b p1 q1 ha ha2
  have l2 := mul_b p2 q2 ha ha2
  have l4 := mul_b p4 q4 ha ha2
  have l5 := mul_b p5 q5 ha ha2
  have l6 := mul_b p6 q6 ha ha2
  have l8 := mul_b p8 q8 ha ha2
  have l9 := mul_b p9 q9 ha ha2
  have s4 := mul_b l4.1 l4.2 ha ha2
  have m3 : ∀ x : Int, 0 ≤ x % n3 ∧ x % n3 < 2147483648 := fun x => mod_b ⟨p3, q3⟩
  have m7 : ∀ x : Int, 0 ≤ x % n7 ∧ x % n7 < 2147483648 := fun x => mod_b ⟨p7, q7⟩
  have m11 : ∀ x : Int, 0 ≤ x % n11 ∧ x % n11 < 2147483648 := fun x => mod_b ⟨p11, q11⟩
  have b1 : Bd n1 := ⟨p1, by omega⟩
  have c1 : Bd (n1 * a) := ⟨l1.1, by omega⟩
  have b2 : Bd n2 := ⟨p2, by omega⟩
  have c2 : Bd (n2 * a) := ⟨l2.1, by omega⟩
  have b4 : Bd n4 := ⟨p4, by omega⟩
  have c4 : Bd (n4 * a) := ⟨l4.1, by omega⟩
  have b5 : Bd n5 := ⟨p5, by omega⟩
  have c5 : Bd (n5 * a) := ⟨l5.1, by omega⟩
  have b6 : Bd n6 := ⟨p6, by omega⟩
  have c6 : Bd (n6 * a) := ⟨l6.1, by omega⟩
  have b8 : Bd n8 := ⟨p8, by omega⟩
  have c8 : Bd (n8 * a) := ⟨l8.1, by omega⟩
  have b9 : Bd n9 := ⟨p9, by omega⟩
  have c9 : Bd (n9 * a) := ⟨l9.1, by omega⟩
  have d4 : Bd (n4 * a * a) := ⟨s4.1, by omega⟩
  have e3 : Md n3 := ⟨p3, q3⟩
  have e7 : Md n7 := ⟨p7, q7⟩
  have e11 : Md n11 := ⟨p11, q11⟩
  have ba : Bd a := ⟨ha, by omega⟩
  have gr : ∀ n : Int, (1000000000000000000 ≤ if n < 0 then -n else n) → 0 ≤ (2 * ((if n < 0 then -n else n) - 1000000000000000000) + if n < 0 then 1 else 0) / c := fun n hn => Int.ediv_nonneg (by split at hn <;> (try split) <;> omega) (by omega)
  have fin : ∀ {v a' g' : Int} (r : List Slot), 0 ≤ v → v < c → 0 ≤ a' → a' ≤ a + 1 → 0 ≤ g' → ∃ as', outArgs 0 [Slot.own (some 0) (Mv.lst [PyData.list (List.map PyData.int cells), PyData.int a, PyData.int g]), Slot.val (PyData.int c)]
      (Slot.own (some 0) (Mv.lst [PyData.list (List.map PyData.int cells), PyData.int a', PyData.int g']) :: Slot.val (PyData.int c) :: r) = some as' ∧ Q (Rv.val (PyData.int v)) (List.take 2 as') := fun r h1 h2 h3 h4 h5 => ⟨_, rfl, h _ _ _ h1 h2 h3 h4 h5⟩
  refine ⟨fun h1 => ⟨hc, ⟨hc, by omega⟩, fin _ (Int.emod_nonneg _ (by omega)) (Int.emod_lt_of_pos _ hc) ha (by omega) (Int.ediv_nonneg hg (by omega))⟩, fun h1 => ⟨.inr ba.sm, by decide, fun hne => ?_, fun he => ?_⟩⟩
  · have hl : 0 < cells.length := List.length_pos_iff.mpr hne
    obtain ⟨n, hn⟩ := at_ints (l := cells) (i := a % cells.length) (Int.emod_nonneg _ (by omega)) (Int.emod_lt_of_pos _ (by omega))
    refine ⟨hl, ?_⟩
    rw [hn]
    simp
    repeat' (first | (refine And.intro ?_ ?_) | intro _)
    all_goals first
      | exact hc
      | rfl
      | omega
      | exact nb3 e3 d4 c5 b6
      | exact nbm1 e7 (by omega) b9
      | exact sm_mod e7
      | exact .inr ba.sm
      | exact fin _ (Int.emod_nonneg _ (by omega)) (Int.emod_lt_of_pos _ hc) (by omega) (by omega) hg
      | exact fin _ (Int.emod_nonneg _ (by omega)) (Int.emod_lt_of_pos _ hc) (by omega) (by omega) (gr _ (by assumption))
      | exact .inl (by decide)
  · skip
    repeat' (first | (refine And.intro ?_ ?_) | intro _)
    all_goals first
      | exact hc
      | rfl
      | omega
      | exact nb3 e3 d4 c5 b6
      | exact nbm1 e7 (by omega) b9
      | exact sm_mod e7
      | exact .inr ba.sm
      | exact fin _ (Int.emod_nonneg _ (by omega)) (Int.emod_lt_of_pos _ hc) (by omega) (by omega) hg
      | exact fin _ (Int.emod_nonneg _ (by omega)) (Int.emod_lt_of_pos _ hc) (by omega) (by omega) (gr _ (by assumption))
      | exact .inl (by decide)
def drawD (n1 n2 n3 n4 n5 n7 n8 n9 n10 n11 n12 : Int) : Sts :=
    (.cons (.ife (.cmp .gt (.idx (.var 0) (.cst (.int 2))) (.cst (.int 0))) (.cons (.asg (.nm 5) (.bin .mod (.idx (.var 0) (.cst (.int 2))) (.var 1)))
    (.cons (.setI 0 (.cst (.int 2)) (.bin .fdiv (.idx (.var 0) (.cst (.int 2))) (.var 1)))
    (.cons (.ret (.var 5))
    .nil))) .nil)
    (.cons (.asg (.nm 2) (.idx (.var 0) (.cst (.int 1))))
    (.cons (.setI 0 (.cst (.int 1)) (.bin .add (.var 2) (.cst (.int 1))))
    (.cons (.asg (.nm 3) (.bin .add (.bin .mul (.cst (.int n1)) (.var 2)) (.cst (.int n2))))
    (.cons (.ife (.cmp .ne (.idx (.var 0) (.cst (.int 0))) (.lst .nil)) (.cons (.asg (.nm 3) (.idx (.idx (.var 0) (.cst (.int 0))) (.bin .mod (.var 2) (.bi .len (.cons (.idx (.var 0) (.cst (.int 0))) .nil)))))
    .nil) .nil)
    (.cons (.ife (.and (.cons (.cmp .lt (.var 2) (.bi .len (.cons (.idx (.var 0) (.cst (.int 0))) .nil))) (.cons (.cmp .ge (.bi .abs (.cons (.var 3) .nil)) (.bin .pow (.cst (.int 10)) (.cst (.int 18)))) .nil))) (.cons (.asg (.nm 6) (.bin .add (.bin .mul (.cst (.int 2)) (.bin .sub (.bi .abs (.cons (.var 3) .nil)) (.bin .pow (.cst (.int 10)) (.cst (.int 18))))) (.bi .int (.cons (.cmp .lt (.var 3) (.cst (.int 0))) .nil))))
    (.cons (.setI 0 (.cst (.int 2)) (.bin .fdiv (.var 6) (.var 1)))
    (.cons (.ret (.bin .mod (.var 6) (.var 1)))
    .nil))) .nil)
    (.cons (.asg (.nm 4) (.bin .mod (.bin .pow (.bin .add (.bin .add (.bin .mod (.var 3) (.cst (.int n3))) (.bin .mul (.cst (.int n4)) (.var 2))) (.cst (.int n5))) (.cst (.int 5))) (.cst (.int n7))))
    (.cons (.asg (.nm 4) (.bin .mod (.bin .pow (.bin .add (.bin .add (.bin .mul (.var 4) (.bin .add (.bin .mul (.cst (.int 2)) (.var 2)) (.cst (.int n8)))) (.bin .mul (.bin .mul (.cst (.int n9)) (.var 2)) (.var 2))) (.cst (.int n10))) (.cst (.int 3))) (.cst (.int n11))))
    (.cons (.ret (.bin .mod (.bin .fdiv (.var 4) (.cst (.int n12))) (.var 1)))
    .nil)))))))))
theorem drawD_ok {Φ : Env'} {B : Nat → List (Str × D) → Option (List D)} (hB : B 2 [] = some []) {n1 n2 n3 n4 n5 n7 n8 n9 n10 n11 n12 : Int} (h1 : Cf n1) (h2 : Cf n2) (h4 : Cf n4) (h5 : Cf n5) (h8 : Cf n8) (h9 : Cf n9) (h10 : Cf n10) (h3 : Md n3) (h7 : Md n7) (h11 : Md n11) (h12 : 0 < n12 ∧ n12 < 1000) : DrawOk (semF Φ 7 B (drawD n1 n2 n3 n4 n5 n7 n8 n9 n10 n11 n12)) := by
  intro cells a g c Z Q ha ha2 hg hc hc2 h
  unfold Pen at *
  refine wp_def (ext := []) hB ?_
  unfold drawD
  obtain ⟨p1, q1⟩ := h1
  obtain ⟨p2, q2⟩ := h2
  obtain ⟨p4, q4⟩ := h4
  obtain ⟨p5, q5⟩ := h5
  obtain ⟨p8, q8⟩ := h8
  obtain ⟨p9, q9⟩ := h9
  obtain ⟨p10, q10⟩ := h10
  obtain ⟨p3, q3⟩ := h3
  obtain ⟨p7, q7⟩ := h7
  obtain ⟨p11, q11⟩ := h11
  obtain ⟨p12, q12⟩ := h12
  simp
  have aa := mul_b ha ha2 ha ha2
  have l1 := mul_b p1 q1 ha ha2
  have l2 := mul_b p2 q2 ha ha2
  have l4 := mul_b p4 q4 ha ha2
  have l5 := mul_b p5 q5 ha ha2
  have l8 := mul_b p8 q8 ha ha2
  have l9 := mul_b p9 q9 ha ha2
  have l10 := mul_b p10 q10 ha ha2
  have s9 := mul_b l9.1 l9.2 ha ha2
  have m3 : ∀ x : Int, 0 ≤ x % n3 ∧ x % n3 < 2147483648 := fun x => mod_b ⟨p3, q3⟩
  have m7 : ∀ x : Int, 0 ≤ x % n7 ∧ x % n7 < 2147483648 := fun x => mod_b ⟨p7, q7⟩
  have m11 : ∀ x : Int, 0 ≤ x % n11 ∧ x % n11 < 2147483648 := fun x => mod_b ⟨p11, q11⟩
  have b1 : Bd n1 := ⟨p1, by omega⟩
  have c1 : Bd (n1 * a) := ⟨l1.1, by omega⟩
  have b2 : Bd n2 := ⟨p2, by omega⟩
  have c2 : Bd (n2 * a) := ⟨l2.1, by omega⟩
  have b4 : Bd n4 := ⟨p4, by omega⟩
  have c4 : Bd (n4 * a) := ⟨l4.1, by omega⟩
  have b5 : Bd n5 := ⟨p5, by omega⟩
  have c5 : Bd (n5 * a) := ⟨l5.1, by omega⟩
  have b8 : Bd n8 := ⟨p8, by omega⟩
  have c8 : Bd (n8 * a) := ⟨l8.1, by omega⟩
  have b9 : Bd n9 := ⟨p9, by omega⟩
  have c9 : Bd (n9 * a) := ⟨l9.1, by omega⟩
  have b10 : Bd n10 := ⟨p10, by omega⟩
  have c10 : Bd (n10 * a) := ⟨l10.1, by omega⟩
  have d9 : Bd (n9 * a * a) := ⟨s9.1, by omega⟩
  have e3 : Md n3 := ⟨p3, q3⟩
  have e7 : Md n7 := ⟨p7, q7⟩
  have e11 : Md n11 := ⟨p11, q11⟩
  have ba : Bd a := ⟨ha, by omega⟩
  have gr : ∀ n : Int, (1000000000000000000 ≤ if n < 0 then -n else n) → 0 ≤ (2 * ((if n < 0 then -n else n) - 1000000000000000000) + if n < 0 then 1 else 0) / c := fun n hn => Int.ediv_nonneg (by split at hn <;> (try split) <;> omega) (by omega)
  have fin : ∀ {v a' g' : Int} (r : List Slot), 0 ≤ v → v < c → 0 ≤ a' → a' ≤ a + 1 → 0 ≤ g' → ∃ as', outArgs 0 [Slot.own (some 0) (Mv.lst [PyData.list (List.map PyData.int cells), PyData.int a, PyData.int g]), Slot.val (PyData.int c)]
      (Slot.own (some 0) (Mv.lst [PyData.list (List.map PyData.int cells), PyData.int a', PyData.int g']) :: Slot.val (PyData.int c) :: r) = some as' ∧ Q (Rv.val (PyData.int v)) (List.take 2 as') := fun r h1 h2 h3 h4 h5 => ⟨_, rfl, h _ _ _ h1 h2 h3 h4 h5⟩
  refine ⟨fun h1 => ⟨hc, ⟨hc, by omega⟩, fin _ (Int.emod_nonneg _ (by omega)) (Int.emod_lt_of_pos _ hc) ha (by omega) (Int.ediv_nonneg hg (by omega))⟩, fun h1 => ⟨.inr ba.sm, by decide, fun hne => ?_, fun he => ?_⟩⟩
  · have hl : 0 < cells.length := List.length_pos_iff.mpr hne
    obtain ⟨n, hn⟩ := at_ints (l := cells) (i := a % cells.length) (Int.emod_nonneg _ (by omega)) (Int.emod_lt_of_pos _ (by omega))
    refine ⟨hl, ?_⟩
    rw [hn]
    simp
    repeat' (first | (refine And.intro ?_ ?_) | intro _)
    all_goals first
      | exact hc
      | rfl
      | omega
      | exact nb2 e3 c4 b5
      | exact nbm2 e7 (by omega) d9 b10
      | exact sm_mod e7
      | exact .inr ba.sm
      | exact fin _ (Int.emod_nonneg _ (by omega)) (Int.emod_lt_of_pos _ hc) (by omega) (by omega) hg
      | exact fin _ (Int.emod_nonneg _ (by omega)) (Int.emod_lt_of_pos _ hc) (by omega) (by omega) (gr _ (by assumption))
      | exact .inl (by decide)
  · skip
    repeat' (first | (refine And.intro ?_ ?_) | intro _)
    all_goals first
      | exact hc
      | rfl
      | omega
      | exact nb2 e3 c4 b5
      | exact nbm2 e7 (by omega) d9 b10
      | exact sm_mod e7
      | exact .inr ba.sm
      | exact fin _ (Int.emod_nonneg _ (by omega)) (Int.emod_lt_of_pos _ hc) (by omega) (by omega) hg
      | exact fin _ (Int.emod_nonneg _ (by omega)) (Int.emod_lt_of_pos _ hc) (by omega) (by omega) (gr _ (by assumption))
      | exact .inl (by decide)
def drawE (n1 n2 n3 n4 n5 n7 n8 n9 n10 n11 : Int) : Sts :=
    (.cons (.ife (.cmp .gt (.idx (.var 0) (.cst (.int 2))) (.cst (.int 0))) (.cons (.asg (.nm 5) (.bin .mod (.idx (.var 0) (.cst (.int 2))) (.var 1)))
    (.cons (.setI 0 (.cst (.int 2)) (.bin .fdiv (.idx (.var 0) (.cst (.int 2))) (.var 1)))
    (.cons (.ret (.var 5))
    .nil))) .nil)
    (.cons (.asg (.nm 2) (.idx (.var 0) (.cst (.int 1))))
    (.cons (.setI 0 (.cst (.int 1)) (.bin .add (.var 2) (.cst (.int 1))))
    (.cons (.asg (.nm 3) (.bin .add (.bin .mul (.cst (.int n1)) (.var 2)) (.cst (.int n2))))
    (.cons (.ife (.cmp .ne (.idx (.var 0) (.cst (.int 0))) (.lst .nil)) (.cons (.asg (.nm 3) (.idx (.idx (.var 0) (.cst (.int 0))) (.bin .mod (.var 2) (.bi .len (.cons (.idx (.var 0) (.cst (.int 0))) .nil)))))
    .nil) .nil)
    (.cons (.ife (.and (.cons (.cmp .lt (.var 2) (.bi .len (.cons (.idx (.var 0) (.cst (.int 0))) .nil))) (.cons (.cmp .ge (.bi .abs (.cons (.var 3) .nil)) (.bin .pow (.cst (.int 10)) (.cst (.int 18)))) .nil))) (.cons (.setI 0 (.cst (.int 2)) (.bin .fdiv (.bi .abs (.cons (.var 3) .nil)) (.var 1)))
    (.cons (.ret (.bin .mod (.bi .abs (.cons (.var 3) .nil)) (.var 1)))
    .nil)) .nil)
    (.cons (.asg (.nm 4) (.bin .mod (.bin .pow (.bin .add (.bin .add (.bin .mod (.var 3) (.cst (.int n3))) (.bin .mul (.cst (.int n4)) (.var 2))) (.cst (.int n5))) (.cst (.int 5))) (.cst (.int n7))))
    (.cons (.asg (.nm 4) (.bin .mod (.bin .pow (.bin .add (.bin .mul (.var 4) (.bin .add (.var 2) (.cst (.int n8)))) (.bin .mul (.bin .mul (.cst (.int n9)) (.var 2)) (.var 2))) (.cst (.int 3))) (.cst (.int n10))))
    (.cons (.ret (.bin .mod (.bin .fdiv (.var 4) (.cst (.int n11))) (.var 1)))
    .nil)))))))))
theorem drawE_ok {Φ : Env'} {B : Nat → List (Str × D) → Option (List D)} (hB : B 2 [] = some []) {n1 n2 n3 n4 n5 n7 n8 n9 n10 n11 : Int} (h1 : Cf n1) (h2 : Cf n2) (h4 : Cf n4) (h5 : Cf n5) (h8 : Cf n8) (h9 : Cf n9) (h3 : Md n3) (h7 : Md n7) (h10 : Md n10) (h11 : 0 < n11 ∧ n11 < 1000) : DrawOk (semF Φ 6 B (drawE n1 n2 n3 n4 n5 n7 n8 n9 n10 n11)) := by
  intro cells a g c Z Q ha ha2 hg hc hc2 h
  unfold Pen at *
  refine wp_def (ext := []) hB ?_
  unfold drawE
  obtain ⟨p1, q1⟩ := h1
  obtain ⟨p2, q2⟩ := h2
  obtain ⟨p4, q4⟩ := h4
  obtain ⟨p5, q5⟩ := h5
  obtain ⟨p8, q8⟩ := h8
  obtain ⟨p9, q9⟩ := h9
  obtain ⟨p3, q3⟩ := h3
  obtain ⟨p7, q7⟩ := h7
  obtain ⟨p10, q10⟩ := h10
  obtain ⟨p11, q11⟩ := h11
  simp
  have aa := mul_b ha ha2 ha ha2
  have l1 := mul_b p1 q1 ha ha2
  have l2 := mul_b p2 q2 ha ha2
  have l4 := mul_b p4 q4 ha ha2
  have l5 := mul_b p5 q5 ha ha2
  have l8 := mul_b p8 q8 ha ha2
  have l9 := mul_b p9 q9 ha ha2
  have s9 := mul_b l9.1 l9.2 ha ha2
  have m3 : ∀ x : Int, 0 ≤ x % n3 ∧ x % n3 < 2147483648 := fun x => mod_b ⟨p3, q3⟩
  have m7 : ∀ x : Int, 0 ≤ x % n7 ∧ x % n7 < 2147483648 := fun x => mod_b ⟨p7, q7⟩
  have m10 : ∀ x : Int, 0 ≤ x % n10 ∧ x % n10 < 2147483648 := fun x => mod_b ⟨p10, q10⟩
  have b1 : Bd n1 := ⟨p1, by omega⟩
  have c1 : Bd (n1 * a) := ⟨l1.1, by omega⟩
  have b2 : Bd n2 := ⟨p2, by omega⟩
  have c2 : Bd (n2 * a) := ⟨l2.1, by omega⟩
  have b4 : Bd n4 := ⟨p4, by omega⟩
  have c4 : Bd (n4 * a) := ⟨l4.1, by omega⟩
  have b5 : Bd n5 := ⟨p5, by omega⟩
  have c5 : Bd (n5 * a) := ⟨l5.1, by omega⟩
  have b8 : Bd n8 := ⟨p8, by omega⟩
  have c8 : Bd (n8 * a) := ⟨l8.1, by omega⟩
  have b9 : Bd n9 := ⟨p9, by omega⟩
  have c9 : Bd (n9 * a) := ⟨l9.1, by omega⟩
  have d9 : Bd (n9 * a * a) := ⟨s9.1, by omega⟩
  have e3 : Md n3 := ⟨p3, q3⟩
  have e7 : Md n7 := ⟨p7, q7⟩
  have e10 : Md n10 := ⟨p10, q10⟩
  have ba : Bd a := ⟨ha, by omega⟩
  have gr : ∀ n : Int, (1000000000000000000 ≤ if n < 0 then -n else n) → 0 ≤ (if n < 0 then -n else n) / c := fun n hn => Int.ediv_nonneg (by split at hn <;> (try split) <;> omega) (by omega)
  have fin : ∀ {v a' g' : Int} (r : List Slot), 0 ≤ v → v < c → 0 ≤ a' → a' ≤ a + 1 → 0 ≤ g' → ∃ as', outArgs 0 [Slot.own (some 0) (Mv.lst [PyData.list (List.map PyData.int cells), PyData.int a, PyData.int g]), Slot.val (PyData.int c)]
      (Slot.own (some 0) (Mv.lst [PyData.list (List.map PyData.int cells), PyData.int a', PyData.int g']) :: Slot.val (PyData.int c) :: r) = some as' ∧ Q (Rv.val (PyData.int v)) (List.take 2 as') := fun r h1 h2 h3 h4 h5 => ⟨_, rfl, h _ _ _ h1 h2 h3 h4 h5⟩
  refine ⟨fun h1 => ⟨hc, ⟨hc, by omega⟩, fin _ (Int.emod_nonneg _ (by omega)) (Int.emod_lt_of_pos _ hc) ha (by omega) (Int.ediv_nonneg hg (by omega))⟩, fun h1 => ⟨.inr ba.sm, by decide, fun hne => ?_, fun he => ?_⟩⟩
  · have hl : 0 < cells.length := List.length_pos_iff.mpr hne
    obtain ⟨n, hn⟩ := at_ints (l := cells) (i := a % cells.length) (Int.emod_nonneg _ (by omega)) (Int.emod_lt_of_pos _ (by omega))
    refine ⟨hl, ?_⟩
    rw [hn]
    simp
    repeat' (first | (refine And.intro ?_ ?_) | intro _)
    all_goals first
      | exact hc
      | rfl
      | omega
      | exact nb2 e3 c4 b5
      | exact nbm1 e7 (by omega) d9
      | exact sm_mod e7
      | exact .inr ba.sm
      | exact fin _ (Int.emod_nonneg _ (by omega)) (Int.emod_lt_of_pos _ hc) (by omega) (by omega) hg
      | exact fin _ (Int.emod_nonneg _ (by omega)) (Int.emod_lt_of_pos _ hc) (by omega) (by omega) (gr _ (by assumption))
      | exact .inl (by decide)
  · skip
    repeat' (first | (refine And.intro ?_ ?_) | intro _)
    all_goals first
      | exact hc
      | rfl
      | omega
      | exact nb2 e3 c4 b5
      | exact nbm1 e7 (by omega) d9
      | exact sm_mod e7
      | exact .inr ba.sm
      | exact fin _ (Int.emod_nonneg _ (by omega)) (Int.emod_lt_of_pos _ hc) (by omega) (by omega) hg
      | exact fin _ (Int.emod_nonneg _ (by omega)) (Int.emod_lt_of_pos _ hc) (by omega) (by omega) (gr _ (by assumption))
      | exact .inl (by decide)
end PV
namespace PV
open PySem PySem.Spec PyProof.Rows L2
/-- a draw, the pen in the i-th slot -/
theorem draw_call {Z : Exn → List Slot → Prop} {S : FSem} (hS : DrawOk S) {ρ : List Slot} {i : Nat} {pin : Option Nat} {cells : List Int} {a g c : Int} {Q : Rv → List Slot → Prop} (hi : ρ[i]? = some (.own pin (.lst (Pen cells a g))))
    (ha : 0 ≤ a) (ha2 : a ≤ 1000000) (hg : 0 ≤ g) (hc : 0 < c) (hc2 : c < 1000000)
    (h : ∀ v a' g', 0 ≤ v → v < c → 0 ≤ a' → a' ≤ a + 1 → 0 ≤ g' → Q (.val (.int v)) (ρ.set i (.own pin (.lst (Pen cells a' g'))))) : wpM Z (callM S [.bor i, .val (.int c)] [] []) ρ Q := by
  refine wp_call (as := [.own (some 0) (.lst (Pen cells a g)), .val (.int c)]) ?_ ?_ (hS cells a g c _ _ ha ha2 hg hc hc2 fun v a' g' h1 h2 h3 h4 h5 => ⟨_, ?_, by simp, h v a' g' h1 h2 h3 h4 h5⟩)
  · simp [borNodup, hi]
  · simp [argsOf, argOf, hi]
  · simp [backOf, hi]
theorem pen_cut {l : List Int} (h : l.length ≤ 63) : cutD (l.map PyData.int) none (some 63) = l.map PyData.int := by
  refine cutD_whole ⟨rfl, ?_⟩
  have e := HT.sIx_nat (l.map PyData.int).length (l.map PyData.int).length 63
  rw [show (some (63 : Int)) = some ((63 : Nat) : Int) from rfl, e, List.length_map]
  omega
/-- the pen's making -/
theorem pen_call {Z : Exn → List Slot → Prop} {Φ : Env'} {n : Nat} {B : Nat → List (Str × D) → Option (List D)} (hB : B 1 [] = some []) (hn : n = 1) {l : List Int} (h : l.length ≤ 63) {ρ : List Slot} {Q : Rv → List Slot → Prop} :
    wpM Z (callM (semF Φ n B (.cons (.ret (.lst (.cons (.bi .list (.cons (.slc (.var 0) .no (.yes (.cst (.int 63)))) .nil)) (.cons (.cst (.int 0)) (.cons (.cst (.int 0)) .nil))))) .nil)) [.val (.list (l.map .int))] [] []) ρ Q ↔ Q (.fr (.lst (Pen l 0 0))) ρ := by
  subst hn
  refine callF [.list (l.map .int)] fun Z Q h1 => wp_def (ext := []) hB ?_
  simp [pen_cut h]
  exact ⟨fits_of (by decide), _, rfl, h1⟩
end PV
set_option Elab.async false
set_option linter.all false
set_option autoImplicit false
set_option maxRecDepth 100000
set_option maxHeartbeats 4000000
/-! PV: members, items by any index, calls with keywords. -/
namespace PV
open PySem PySem.Spec PyProof.Rows L2
@[simp] theorem fitsL_iff {n : Nat} : (fitsL n = true) ↔ n ≤ 16777216 := ⟨fun h => by have := fitsL_ok h; rw [sizeLine_eq] at this; exact this, fits_of⟩
theorem at_mem {α : Type} {xs : List α} {v : Int} (h0 : 0 ≤ v) (h1 : v < xs.length) : ∃ d ∈ xs, atI xs v = some d := by
  have hv : v.toNat < xs.length := by omega
  refine ⟨xs[v.toNat], List.getElem_mem hv, ?_⟩
  unfold atI ixN
  simp [h0, h1]
theorem at_get {α : Type} {xs : List α} {v : Int} {k : Nat} (hk : v = (k : Int)) (h1 : k < xs.length) : atI xs v = some xs[k] := by
  subst hk
  unfold atI ixN
  have h0 : (0 : Int) ≤ (k : Int) := Int.natCast_nonneg k
  simp [h0, h1]
theorem mem_cut {α : Type} {xs : List α} {lo hi : Option Int} {d : α} (h : d ∈ cutD xs lo hi) : d ∈ xs := List.mem_of_mem_drop (List.mem_of_mem_take h)
theorem len_cut {α : Type} {xs : List α} {lo hi : Option Int} : (cutD xs lo hi).length ≤ xs.length := by
  unfold cutD
  rw [List.length_take, List.length_drop]
  omega
section
variable {Z : Exn → List Slot → Prop} {ρ : List Slot} {R : D → List Slot → Prop} {Q : Rv → List Slot → Prop}
/-- an item of a list, by an index that may be any -/
theorem idx_any {xs : List D} {v : Int} (h0 : 0 ≤ v) (h1 : v < xs.length) (h : ∀ d ∈ xs, R d ρ) : wpM Z (lift (idxV (.list xs) (.int v))) ρ R := by
  obtain ⟨d, hd, e⟩ := at_mem h0 h1
  rw [x_list, e]
  exact lift_some.mpr (h d hd)
theorem idx_anyT {xs : List D} {v : Int} (h0 : 0 ≤ v) (h1 : v < xs.length) (h : ∀ d ∈ xs, R d ρ) : wpM Z (lift (idxV (.tuple xs) (.int v))) ρ R := by
  obtain ⟨d, hd, e⟩ := at_mem h0 h1
  rw [x_tup, e]
  exact lift_some.mpr (h d hd)
theorem b_mulT {xs : List D} {k : Int} : wpM Z (lift (binV .mul (.tuple xs) (.int k))) ρ Q ↔ (decide (-(2 ^ 62) < k) && decide (k < 2 ^ 62) && decide (xs.length * k.toNat ≤ 1000000)) = true ∧ Q (.val (.tuple (List.replicate k.toNat xs).flatten)) ρ := by unfold binV; exact lift_if
theorem b_mulS {xs : Str} {k : Int} : wpM Z (lift (binV .mul (.str xs) (.int k))) ρ Q ↔ (decide (-(2 ^ 62) < k) && decide (k < 2 ^ 62) && decide (xs.length * k.toNat ≤ 1000000)) = true ∧ Q (.val (.str ⟨(List.replicate k.toNat xs.cps.toList).flatten.toArray⟩)) ρ := by unfold binV; exact lift_if
theorem bi_str {i : Int} : wpM Z (lift (biV .str [.int i])) ρ Q ↔ i.natAbs.log2 < 1920 ∧ Q (.val (.str (toString i))) ρ := by
  have e : biV .str [.int i] = if decide (i.natAbs.log2 < 1920) then some (.val (.str (toString i))) else none := rfl
  rw [e, lift_if, decide_eq_true_eq]
theorem repr_eq {d e : D} (h : d = e) (k : reprOk d = true) : reprOk e = true := h ▸ k
end
@[simp] theorem md_dct {kvs : List (Key × D)} : (Mv.dct kvs).d = .dict (kvs.map fun p => (kD p.1, p.2)) := rfl
@[simp] theorem nk0 : Kws.nil.names = [] := rfl
@[simp] theorem nk1 {k : Str} {e : Ex} {es : Kws} : (Kws.cons k e es).names = k :: es.names := rfl
theorem loop_own {Z : Exn → List Slot → Prop} {Φ : Env'} {tg : Tg} {b : Sts} {ρ : List Slot} {j : Nat} {p : Option Nat} {xs : List D} {Q : Fl → List Slot → Prop} (hj : ρ[j]? = some (.own p (.lst xs))) (h : wpM Z (forGo tg (exSs Φ b) [(j, xs)] xs) ρ Q) : wpM Z (exS Φ (.loop tg (.ex (.var j)) b)) ρ Q := by
  rw [es_loop, ei_ex, wp_var, hj]
  exact ⟨.list xs, xs, by simp [cont, hj, Mv.d], rfl, by simp [lockOf, hj, lkIn, lksOf], by simpa [lockOf, hj] using h⟩
theorem loop_val {Z : Exn → List Slot → Prop} {Φ : Env'} {tg : Tg} {b : Sts} {ρ : List Slot} {j : Nat} {d : D} {xs : List D} {Q : Fl → List Slot → Prop} (hj : ρ[j]? = some (.val d)) (hx : itemsOf d = some xs) (h : wpM Z (forGo tg (exSs Φ b) [] xs) ρ Q) : wpM Z (exS Φ (.loop tg (.ex (.var j)) b)) ρ Q := by
  rw [es_loop, ei_ex, wp_var, hj]
  exact ⟨d, xs, rfl, hx, rfl, h⟩
/-! ### comprehensions that draw -/
theorem set_comm' {ρ : List Slot} {i j : Nat} {a b : Slot} (h : i ≠ j) : (ρ.set i a).set j b = (ρ.set j b).set i a := List.set_comm a b h
/-- what a comprehension needs once its source has been reckoned -/
def LcOk (Φ : Env') (own : List (Str × Nat)) (tg : Tg) (tt : Tes) (elt : Ex) (QR : Rv → List Slot → Prop) (w : Walked) (ρ1 : List Slot) : Prop :=
  ownFree ρ1 (own.map (·.2)) = true ∧ lkOut w.lock (own.map (·.2)) = true ∧ ∃ I : Nat → List D → List Slot → Prop, I 0 [] (wipeS ρ1 (own.map (·.2))) ∧ (∀ k acc ρ, k ≤ w.items.length → I k acc ρ → lockOk ρ w.lock = true) ∧
      (∀ k d acc ρ, w.items[k]? = some d → I k acc ρ → wpM noX (putT tg d) ρ fun _ ρ2 => wpM noX (evAnd Φ tt) ρ2 fun b ρ3 => (b = true → wpM noX (evE Φ elt) ρ3 fun r ρ4 => wpM noX (frz r) ρ4 fun y ρ5 => acc.length < sizeLine ∧ I (k + 1) (acc ++ [y]) (wipeS ρ5 (own.map (·.2)))) ∧ (b = false → I (k + 1) acc (wipeS ρ3 (own.map (·.2))))) ∧
      ∀ acc ρ2, I w.items.length acc ρ2 → QR (.fr (.lst acc)) (backS ρ1 ρ2 (own.map (·.2)))
theorem lc_ok {Z : Exn → List Slot → Prop} {Φ : Env'} {ρ : List Slot} {own : List (Str × Nat)} {elt : Ex} {tg : Tg} {it : Itr'} {tt : Tes} {QR : Rv → List Slot → Prop} (h : wpM Z (evI Φ it) ρ (LcOk Φ own tg tt elt QR)) : wpM Z (evE Φ (.lc own elt tg it tt)) ρ QR := lc_inv h
theorem lc_penO {Φ : Env'} {x : Str} {i j n : Nat} {elt : Ex} {xs : List D} {ρ : List Slot} {pin : Option Nat} {cells : List Int} {a g : Int} {Q : Rv → List Slot → Prop} (P : D → D → Prop)
    (hj : ρ[j]? = some (.own pin (.lst (Pen cells a g)))) (hij : i ≠ j) (ha : 0 ≤ a) (hg : 0 ≤ g)
    (hi : isPin ρ[i]? = false) (hf : ownFree ρ [i] = true)
    (helt : ∀ d ∈ xs, ∀ a1 g1, 0 ≤ a1 → a1 ≤ a + (n * xs.length : Nat) → 0 ≤ g1 → ∀ R : D → List Slot → Prop, (∀ y a2 g2, P d y → 0 ≤ a2 → a2 ≤ a1 + n → 0 ≤ g2 → R y ((ρ.set j (.own pin (.lst (Pen cells a2 g2)))).set i (.val d))) →
      wpM noX (evE Φ elt) ((ρ.set j (.own pin (.lst (Pen cells a1 g1)))).set i (.val d)) fun r ρ' => wpM noX (frz r) ρ' R)
    (hl : xs.length ≤ 16777216) (h : ∀ ys a2 g2, ys.length = xs.length → (∀ (k : Nat) y, ys[k]? = some y → ∃ d, xs[k]? = some d ∧ P d y) → 0 ≤ a2 → a2 ≤ a + (n * xs.length : Nat) → 0 ≤ g2 → Q (.fr (.lst ys)) (ρ.set j (.own pin (.lst (Pen cells a2 g2))))) :
    LcOk Φ [(x, i)] (.nm i) .nil elt Q ⟨xs, []⟩ ρ := by
  have jl : j < ρ.length := (List.getElem?_eq_some_iff.mp hj).1
  refine ⟨hf, rfl, fun k acc ρ2 => ∃ a1 g1, ρ2 = (ρ.set j (.own pin (.lst (Pen cells a1 g1)))).set i .non ∧ 0 ≤ a1 ∧ a1 ≤ a + (n * k : Nat) ∧ 0 ≤ g1 ∧ acc.length = k ∧ ∀ (m : Nat) y, acc[m]? = some y → ∃ d, xs[m]? = some d ∧ P d y, ⟨a, g, ?_, ha, by omega, hg, rfl, fun m y e => by simp at e⟩, fun _ _ _ _ _ => rfl, ?_, ?_⟩
  · have e : ρ.set j (.own pin (.lst (Pen cells a g))) = ρ := by
      have z := (List.getElem?_eq_some_iff.mp hj).2
      rw [← z, List.set_getElem_self]
    rw [e]
    rfl
  · rintro k d acc ρ2 hd ⟨a1, g1, e, h1, h2, h3, h4, h5⟩
    subst e
    have hd : xs[k]? = some d := hd
    have hk : k < xs.length := (List.getElem?_eq_some_iff.mp hd).1
    have pin0 : isPin ((ρ.set j (.own pin (.lst (Pen cells a1 g1)))).set i .non)[i]? = false := by
      by_cases z : i < ρ.length
      · rw [List.getElem?_set_self (by simpa using z)]; rfl
      · rw [List.getElem?_eq_none (by simp; omega)]; rfl
    rw [put_nm, wp_storeV]
    refine ⟨pin0, ?_⟩
    rw [List.set_set, et_and0]
    have mono1 : n * k ≤ n * xs.length := Nat.mul_le_mul (Nat.le_refl _) (by omega)
    refine ⟨fun _ => helt d (List.mem_of_getElem? hd) a1 g1 h1 (by omega) h3 _ fun y a2 g2 k1 k2 k3 k4 => ⟨by rw [sizeLine_eq]; omega, a2, g2, ?_, k2, ?_, k4, by simp [h4], fun m z e => ?_⟩, fun e => by cases e⟩
    · show ((ρ.set j _).set i (.val d)).set i .non = _
      rw [List.set_set]
    · have : n * (k + 1) = n * k + n := Nat.mul_succ n k
      omega
    · by_cases hm : m < acc.length
      · rw [List.getElem?_append_left hm] at e
        exact h5 m z e
      · rw [List.getElem?_append_right (by omega)] at e
        have hm0 : m - acc.length = 0 := by
          have := (List.getElem?_eq_some_iff.mp e).1
          simp at this
          omega
        rw [hm0] at e
        cases e
        have : m = k := by omega
        subst this
        exact ⟨d, hd, k1⟩
  · rintro acc ρ2 ⟨a1, g1, e, h1, h2, h3, h4, h5⟩
    subst e
    have e2 : backS ρ ((ρ.set j (.own pin (.lst (Pen cells a1 g1)))).set i .non) [i] = ρ.set j (.own pin (.lst (Pen cells a1 g1))) := by
      have z := back_one (ρ := ρ.set j (.own pin (.lst (Pen cells a1 g1)))) (i := i) (s := .non)
      have z2 : (ρ.set j (.own pin (.lst (Pen cells a1 g1))))[i]? = ρ[i]? := List.getElem?_set_ne (Ne.symm hij)
      unfold backS at z ⊢
      simp only [List.foldl_cons, List.foldl_nil] at z ⊢
      rw [z2] at z
      exact z
    show Q _ (backS ρ _ [i])
    rw [e2]
    exact h acc a1 g1 h4 h5 h1 h2 h3
theorem lc_pen {Z : Exn → List Slot → Prop} {Φ : Env'} {x : Str} {i j n : Nat} {elt : Ex} {it : Itr'} {xs : List D} {ρ : List Slot} {pin : Option Nat} {cells : List Int} {a g : Int} {Q : Rv → List Slot → Prop} (P : D → D → Prop)
    (hj : ρ[j]? = some (.own pin (.lst (Pen cells a g)))) (hij : i ≠ j) (ha : 0 ≤ a) (hg : 0 ≤ g)
    (hit : wpM Z (evI Φ it) ρ fun w ρ1 => w = ⟨xs, []⟩ ∧ ρ1 = ρ) (hi : isPin ρ[i]? = false) (hf : ownFree ρ [i] = true)
    (helt : ∀ d ∈ xs, ∀ a1 g1, 0 ≤ a1 → a1 ≤ a + (n * xs.length : Nat) → 0 ≤ g1 → ∀ R : D → List Slot → Prop, (∀ y a2 g2, P d y → 0 ≤ a2 → a2 ≤ a1 + n → 0 ≤ g2 → R y ((ρ.set j (.own pin (.lst (Pen cells a2 g2)))).set i (.val d))) →
      wpM noX (evE Φ elt) ((ρ.set j (.own pin (.lst (Pen cells a1 g1)))).set i (.val d)) fun r ρ' => wpM noX (frz r) ρ' R)
    (hl : xs.length ≤ 16777216) (h : ∀ ys a2 g2, ys.length = xs.length → (∀ (k : Nat) y, ys[k]? = some y → ∃ d, xs[k]? = some d ∧ P d y) → 0 ≤ a2 → a2 ≤ a + (n * xs.length : Nat) → 0 ≤ g2 → Q (.fr (.lst ys)) (ρ.set j (.own pin (.lst (Pen cells a2 g2))))) :
    wpM Z (evE Φ (.lc [(x, i)] elt (.nm i) it .nil)) ρ Q := by
  refine lc_ok (hit.mono fun w ρ1 ⟨hw, e1⟩ => ?_)
  subst e1 hw
  exact lc_penO P hj hij ha hg hi hf helt hl h
theorem ei_rgN {Z : Exn → List Slot → Prop} {Φ : Env'} {e : Ex} {ρ : List Slot} {n : Nat} (h : wpM Z (evE Φ e) ρ fun r ρ1 => r = .val (.int (n : Int)) ∧ ρ1 = ρ) (hn : n < 4611686018427387904) : wpM Z (evI Φ (.rg1 e)) ρ fun w ρ1 => w = ⟨(List.range n).map fun i => .int (i : Nat), []⟩ ∧ ρ1 = ρ := by
  rw [ei_rg1]
  refine h.mono fun r ρ1 ⟨e1, e2⟩ => ?_
  subst e1 e2
  exact (pk_val).mpr ⟨n, rfl, rgOk_nat hn, by rw [rgD_nat], rfl⟩
/-- one list of bounds for the members of several -/
theorem tm_app {k n : Nat} {xs ys : List D} (h : ∀ x ∈ xs, Tm k n x) (h' : ∀ x ∈ ys, Tm k n x) : ∀ x ∈ xs ++ ys, Tm k n x := fun x hx => (List.mem_append.mp hx).elim (h x) (h' x)
theorem tm_cut {k n : Nat} {xs : List D} {lo hi : Option Int} (h : ∀ x ∈ xs, Tm k n x) : ∀ x ∈ cutD xs lo hi, Tm k n x := fun x hx => h x (mem_cut hx)
theorem tm_cons {k n : Nat} {x : D} {xs : List D} (h : Tm k n x) (h' : ∀ x ∈ xs, Tm k n x) : ∀ y ∈ x :: xs, Tm k n y := fun y hy => (List.mem_cons.mp hy).elim (fun e => e ▸ h) (h' y)
theorem tm_nil {k n : Nat} : ∀ y ∈ ([] : List D), Tm k n y := fun y hy => by cases hy
theorem tm_parts {k n : Nat} : ∀ {xs : List D}, PyData.showableAll xs = true → PyData.leavesShortAll 602 xs = true → PyData.depthAll xs ≤ k → PyData.bulkAll xs ≤ n → ∀ x ∈ xs, Tm k n x
  | [], _, _, _, _, x, hx => by cases hx
  | y :: xs, h1, h2, h3, h4, x, hx => by
    simp only [PyData.showableAll, Bool.and_eq_true] at h1
    simp only [PyData.leavesShortAll, Bool.and_eq_true] at h2
    simp only [PyData.depthAll] at h3
    simp only [PyData.bulkAll] at h4
    rcases List.mem_cons.mp hx with e | hx
    · subst e
      exact ⟨h1.1, h2.1, by omega, by omega⟩
    · exact tm_parts h1.2 h2.2 (by omega) (by omega) x hx
theorem tup_mem {k n : Nat} {xs : List D} (h : Tm (k + 1) n (.tuple xs)) : ∀ x ∈ xs, Tm k n x := by
  obtain ⟨h1, h2, h3, h4⟩ := h
  simp only [PyData.showable] at h1
  simp only [PyData.leavesShort] at h2
  simp only [PyData.depth] at h3
  simp only [PyData.bulk] at h4
  exact tm_parts h1 h2 (by omega) h4
/-- a small int -/
theorem Tm.i {k n : Nat} {i : Int} (h : i.natAbs < 10 ^ 60) : Tm k n (.int i) := .int (Nat.lt_of_lt_of_le h (by decide +kernel))
theorem num_le {i : Int} (h : i.natAbs < 10 ^ 60) : ((toString i : Str).cps.size ≤ 61) ∧ ((toString i : Str).cps.toList.all fun c => decide (c < 1114112)) = true := by
  have e := int_text_length_le10 (a := i) (k := 60) (by decide) h
  have e2 : (Str.ofString (toString i)).length = (toString i).length := PyProof.Rows.ofString_length _
  refine ⟨by have : (Str.ofString (toString i)).length ≤ 61 := by omega
             exact this, ?_⟩
  rw [show (toString i : Str).cps.toList = _ from PyProof.Rows.signs_ofString (toString i), List.all_eq_true]
  intro c hc
  obtain ⟨x, _, e⟩ := List.mem_map.mp hc
  subst e
  refine decide_eq_true ?_
  rcases x.valid with h | ⟨_, h⟩
  · exact Nat.lt_trans h (by decide)
  · exact h
theorem Tm.num {k n : Nat} {i : Int} (h : i.natAbs < 10 ^ 60) (hn : 61 ≤ n) : Tm k n (.str (toString i) : D) := .str (Nat.le_trans (num_le h).1 hn) (num_le h).2
theorem lst_mem {k n : Nat} {xs : List D} (h : Tm (k + 1) n (.list xs)) : ∀ x ∈ xs, Tm k n x := by
  obtain ⟨h1, h2, h3, h4⟩ := h
  simp only [PyData.showable] at h1
  simp only [PyData.leavesShort] at h2
  simp only [PyData.depth] at h3
  simp only [PyData.bulk] at h4
  exact tm_parts h1 h2 (by omega) h4
end PV
set_option Elab.async false
set_option linter.all false
set_option autoImplicit false
set_option maxRecDepth 100000
set_option maxHeartbeats 4000000
/-! PV: rows of texts. -/
namespace PV
open PySem PySem.Spec PyProof.Rows L2
@[simp] theorem ex_pair {y : D} {m : Mv} {P : D → Mv → Prop} : (∃ d mv', (y = d ∧ m = mv') ∧ P d mv') ↔ P y m := ⟨fun ⟨_, _, ⟨e1, e2⟩, p⟩ => by subst e1 e2; exact p, fun p => ⟨_, _, ⟨rfl, rfl⟩, p⟩⟩
/-! ### distinct ones -/
section
variable {α : Type} [DecidableEq α]
def ins1 (acc : List α) (x : α) : List α := if x ∈ acc then acc else x :: acc
theorem dd_def (xs : List α) : dd xs = xs.foldl ins1 [] := rfl
theorem ins1_mem {acc : List α} {x j : α} : j ∈ ins1 acc x ↔ j ∈ acc ∨ j = x := by
  unfold ins1
  split
  · rename_i h
    exact ⟨.inl, fun z => z.elim id fun e => e ▸ h⟩
  · rw [List.mem_cons]; exact Or.comm
theorem ins1_nodup {acc : List α} {x : α} (h : acc.Nodup) : (ins1 acc x).Nodup := by
  unfold ins1
  split
  · exact h
  · rename_i n; exact List.nodup_cons.mpr ⟨n, h⟩
theorem dfold_mem {j : α} : ∀ (xs acc : List α), j ∈ xs.foldl ins1 acc ↔ j ∈ acc ∨ j ∈ xs
  | [], acc => by simp
  | x :: xs, acc => by rw [List.foldl_cons, dfold_mem xs, ins1_mem, List.mem_cons, or_assoc]
theorem dfold_nodup : ∀ (xs acc : List α), acc.Nodup → (xs.foldl ins1 acc).Nodup
  | [], _, h => h
  | x :: xs, _, h => dfold_nodup xs _ (ins1_nodup h)
theorem dd_mem {j : α} {xs : List α} : j ∈ dd xs ↔ j ∈ xs := by rw [dd_def, dfold_mem]; simp
theorem dd_nodup {xs : List α} : (dd xs).Nodup := dfold_nodup _ _ List.nodup_nil
/-- any list without repetitions of the same members is as long -/
theorem len_of_mem {a b : List α} (ha : a.Nodup) (hb : b.Nodup) (h : ∀ x, x ∈ a ↔ x ∈ b) : a.length = b.length :=
  ((List.perm_ext_iff_of_nodup ha hb).mpr h).length_eq
theorem dd_cons {x : α} {xs : List α} : (dd (x :: xs)).length = if x ∈ xs then (dd xs).length else (dd xs).length + 1 := by
  split
  · rename_i h
    refine len_of_mem dd_nodup dd_nodup fun y => ?_
    rw [dd_mem, dd_mem, List.mem_cons]
    exact ⟨fun z => z.elim (fun e => e ▸ h) id, .inr⟩
  · rename_i h
    have n : (x :: dd xs).Nodup := List.nodup_cons.mpr ⟨fun z => h (dd_mem.mp z), dd_nodup⟩
    exact (len_of_mem dd_nodup n fun y => by rw [dd_mem, List.mem_cons, List.mem_cons, dd_mem]).trans (by simp)
theorem dd_le {xs : List α} : (dd xs).length ≤ xs.length := by
  induction xs with
  | nil => exact Nat.le_refl _
  | cons x xs ih => rw [dd_cons]; split <;> simp only [List.length_cons] <;> omega
theorem dd_drop {xs : List α} {i : Nat} : (dd (xs.drop (i + 1))).length ≤ (dd (xs.drop i)).length := by
  by_cases h : i < xs.length
  · rw [List.drop_eq_getElem_cons h, dd_cons]
    split <;> omega
  · rw [List.drop_eq_nil_of_le (by omega), List.drop_eq_nil_of_le (by omega)]
    exact Nat.le_refl _
theorem dd_drops {xs : List α} {i j : Nat} (h : i ≤ j) : (dd (xs.drop j)).length ≤ (dd (xs.drop i)).length := by
  induction j with
  | zero => obtain rfl : i = 0 := by omega
            exact Nat.le_refl _
  | succ j ih =>
    by_cases e : i = j + 1
    · subst e; exact Nat.le_refl _
    · exact Nat.le_trans dd_drop (ih (by omega))
end
/-! ### texts in order, each once -/
def dsort (xs : List Str) : List Str := (dd xs).mergeSort leS
theorem dsort_mem {x : Str} {xs : List Str} : x ∈ dsort xs ↔ x ∈ xs := by unfold dsort; rw [List.mem_mergeSort, dd_mem]
theorem dsort_len {xs : List Str} : (dsort xs).length = (dd xs).length := by unfold dsort; rw [List.length_mergeSort]
theorem dsort_nodup {xs : List Str} : (dsort xs).Nodup := (List.mergeSort_perm _ _).nodup_iff.mpr dd_nodup
/-- the same members give the same row -/
theorem dsort_congr {a b : List Str} (h : ∀ x, x ∈ a ↔ x ∈ b) : dsort a = dsort b :=
  srtS_perm ((List.perm_ext_iff_of_nodup dd_nodup dd_nodup).mpr fun x => by rw [dd_mem, dd_mem, h])
/-- a row of texts -/
def tx (xs : List Str) : List D := xs.map PyData.str
@[simp] theorem tx_len {xs : List Str} : (tx xs).length = xs.length := List.length_map _
@[simp] theorem tx_nil : tx [] = [] := rfl
theorem tx_cons {x : Str} {xs : List Str} : tx (x :: xs) = .str x :: tx xs := rfl
theorem tx_app {xs ys : List Str} : tx xs ++ tx ys = tx (xs ++ ys) := (List.map_append).symm
theorem tx_get {xs : List Str} {i : Nat} (h : i < xs.length) : (tx xs)[i]? = some (.str xs[i]) := by simp [tx, h]
theorem strsOf_tx : ∀ xs : List Str, strsOf (tx xs) = some xs
  | [] => rfl
  | x :: xs => by
    show (strsOf (tx xs)).map (x :: ·) = _
    rw [strsOf_tx xs]; rfl
theorem klOf_tx {xs : List Str} : klOf (tx xs) = some (match xs with | [] => .nums [] | _ => .txts xs) := by
  cases xs with
  | nil => rfl
  | cons x xs =>
    unfold klOf
    have e : intsOf (tx (x :: xs)) = none := rfl
    rw [e, strsOf_tx]; rfl
section
variable {Z : Exn → List Slot → Prop} {ρ : List Slot} {Q : Rv → List Slot → Prop} {T : Bool → List Slot → Prop} {R : D → List Slot → Prop}
theorem sset_tx {d : D} {q : Bool × List D} (hq : seqD d = some q) {xs : List Str} (e : q.2 = tx xs) : ssetV d = if decide (xs.length < 4000) then some (.fr (.lst (tx (dsort xs)))) else none := by
  unfold ssetV
  rw [hq]
  simp only [e, klOf_tx]
  cases xs with
  | nil => simp [Kl.len, Kl.dst, Kl.srt, Kl.ds, dd, dsort, tx]
  | cons x xs => rfl
theorem lset_tx {d : D} {q : Bool × List D} (hq : seqD d = some q) {xs : List Str} (e : q.2 = tx xs) : lsetV d = if decide (xs.length < 4000) then some (.val (.int ((dd xs).length : Nat))) else none := by
  unfold lsetV
  rw [hq]
  simp only [e, klOf_tx]
  cases xs with
  | nil => rfl
  | cons x xs => rfl
theorem w_ssetT {xs : List Str} : wpM Z (lift (ssetV (.tuple (tx xs)))) ρ Q ↔ xs.length < 4000 ∧ Q (.fr (.lst (tx (dsort xs)))) ρ := by
  rw [sset_tx (q := (true, tx xs)) rfl rfl, lift_if, decide_eq_true_eq]
theorem w_ssetL {xs : List Str} : wpM Z (lift (ssetV (.list (tx xs)))) ρ Q ↔ xs.length < 4000 ∧ Q (.fr (.lst (tx (dsort xs)))) ρ := by
  rw [sset_tx (q := (false, tx xs)) rfl rfl, lift_if, decide_eq_true_eq]
theorem w_lsetT {xs : List Str} : wpM Z (lift (lsetV (.tuple (tx xs)))) ρ Q ↔ xs.length < 4000 ∧ Q (.val (.int ((dd xs).length : Nat))) ρ := by
  rw [lset_tx (q := (true, tx xs)) rfl rfl, lift_if, decide_eq_true_eq]
theorem w_lsetL {xs : List Str} : wpM Z (lift (lsetV (.list (tx xs)))) ρ Q ↔ xs.length < 4000 ∧ Q (.val (.int ((dd xs).length : Nat))) ρ := by
  rw [lset_tx (q := (false, tx xs)) rfl rfl, lift_if, decide_eq_true_eq]
theorem cut_tx {xs : List Str} {lo hi : Option Int} : cutD (tx xs) lo hi = tx (cutD xs lo hi) := by
  unfold cutD tx
  simp only [List.length_map, List.map_take, List.map_drop]
theorem cut_to {α : Type} {xs : List α} {n : Nat} : cutD xs none (some (n : Int)) = xs.take n := by
  unfold cutD
  rw [HT.sIx_nat, HT.sIx_none]
  simp only [List.drop_zero, Nat.sub_zero]
  rw [List.take_eq_take_iff]
  omega
theorem cut_from {α : Type} {xs : List α} {n : Nat} : cutD xs (some (n : Int)) none = xs.drop n := by
  unfold cutD
  rw [HT.sIx_nat, HT.sIx_none]
  by_cases h : n ≤ xs.length
  · rw [Nat.min_eq_left h, List.take_of_length_le (by rw [List.length_drop]; exact Nat.le_refl _)]
  · rw [Nat.min_eq_right (by omega), List.drop_eq_nil_of_le (Nat.le_refl _), List.drop_eq_nil_of_le (by omega), List.take_nil]
theorem has_tx {x : Str} {xs : List Str} : hasD (.str x) (tx xs) = decide (x ∈ xs) := by
  unfold hasD tx
  rw [Bool.eq_iff_iff, List.any_map, List.any_eq_true, decide_eq_true_eq]
  constructor
  · rintro ⟨y, h1, h2⟩
    have : y = x := by simpa [PyData.eqv] using h2
    exact this ▸ h1
  · intro h
    exact ⟨x, h, by simp [PyData.eqv]⟩
theorem sc_tx {xs : List Str} : (tx xs).all isScalar = true := by simp [tx, isScalar, List.all_map, Function.comp_def]
theorem inD_tx {x : Str} {xs : List Str} : inD (.str x) (tx xs) = true := by
  unfold inD
  have h2 : ((tx xs).all fun z => eqOk z (.str x)) = true := by simp [tx, List.all_map, Function.comp_def, eqOk]
  rw [h2]
  rfl
@[simp] theorem in_txT {x : Str} {xs : List Str} : cmpV .isin (.str x) (.tuple (tx xs)) = some (decide (x ∈ xs)) := by
  have e : cmpV .isin (.str x) (.tuple (tx xs)) = if (isScalar (.str x) && (tx xs).all isScalar) || inD (.str x) (tx xs) then some (hasD (.str x) (tx xs)) else none := rfl
  rw [e, inD_tx, Bool.or_true, has_tx]; rfl
@[simp] theorem nin_txT {x : Str} {xs : List Str} : cmpV .notin (.str x) (.tuple (tx xs)) = some (!decide (x ∈ xs)) := by
  have e : cmpV .notin (.str x) (.tuple (tx xs)) = if (isScalar (.str x) && (tx xs).all isScalar) || inD (.str x) (tx xs) then some (!hasD (.str x) (tx xs)) else none := rfl
  rw [e, inD_tx, Bool.or_true, has_tx]; rfl
@[simp] theorem in_txL {x : Str} {xs : List Str} : cmpV .isin (.str x) (.list (tx xs)) = some (decide (x ∈ xs)) := by
  have e : cmpV .isin (.str x) (.list (tx xs)) = if (SeqAt.shaped (.str x) && SeqAt.shaped (.list (tx xs))) || inD (.str x) (tx xs) then some (hasD (.str x) (tx xs)) else none := rfl
  rw [e, inD_tx, Bool.or_true, has_tx]; rfl
@[simp] theorem nin_txL {x : Str} {xs : List Str} : cmpV .notin (.str x) (.list (tx xs)) = some (!decide (x ∈ xs)) := by
  have e : cmpV .notin (.str x) (.list (tx xs)) = if (SeqAt.shaped (.str x) && SeqAt.shaped (.list (tx xs))) || inD (.str x) (tx xs) then some (!hasD (.str x) (tx xs)) else none := rfl
  rw [e, inD_tx, Bool.or_true, has_tx]; rfl
theorem eqs_tx : ∀ {xs ys : List Str}, eqOks (tx xs) (tx ys) = true
  | [], ys => by cases ys <;> rfl
  | x :: xs, [] => rfl
  | x :: xs, y :: ys => by
    show (eqOk (.str x) (.str y) && eqOks (tx xs) (tx ys)) = true
    rw [eqs_tx]; rfl
theorem eqva_tx : ∀ {xs ys : List Str}, PyData.eqvAll (tx xs) (tx ys) = decide (xs = ys)
  | [], [] => rfl
  | [], _ :: _ => rfl
  | _ :: _, [] => rfl
  | x :: xs, y :: ys => by
    show (PyData.eqv (.str x) (.str y) && PyData.eqvAll (tx xs) (tx ys)) = _
    rw [eqva_tx, eqv_str, Bool.eq_iff_iff]
    simp
theorem dep_tx : ∀ {xs : List Str}, PyData.depthAll (tx xs) = 0
  | [] => rfl
  | x :: xs => by
    show max (PyData.depth (.str x)) (PyData.depthAll (tx xs)) = 0
    rw [dep_tx]; rfl
@[simp] theorem eq_txT {xs ys : List Str} : cmpV .eq (.tuple (tx xs)) (.tuple (tx ys)) = some (decide (xs = ys)) := by
  have hz : eqD (.tuple (tx xs)) (.tuple (tx ys)) = true := by simp [eqD, eqOk, eqs_tx, PyData.depth, dep_tx]
  rw [cmp_eq, hz, Bool.or_true, if_pos rfl]
  show some (PyData.eqvAll (tx xs) (tx ys)) = _
  rw [eqva_tx]
@[simp] theorem ne_txT {xs ys : List Str} : cmpV .ne (.tuple (tx xs)) (.tuple (tx ys)) = some (!decide (xs = ys)) := by
  have hz : neD (.tuple (tx xs)) (.tuple (tx ys)) = true := by simp [neD, eqD, eqOk, isSq, eqs_tx, PyData.depth, dep_tx]
  rw [cmp_ne, hz, Bool.or_true, if_pos rfl]
  show some (!PyData.eqvAll (tx xs) (tx ys)) = _
  rw [eqva_tx]
@[simp] theorem eq_txL {xs ys : List Str} : cmpV .eq (.list (tx xs)) (.list (tx ys)) = some (decide (xs = ys)) := by
  have hz : eqD (.list (tx xs)) (.list (tx ys)) = true := by simp [eqD, eqOk, eqs_tx, PyData.depth, dep_tx]
  rw [cmp_eq, hz, Bool.or_true, if_pos rfl]
  show some (PyData.eqvAll (tx xs) (tx ys)) = _
  rw [eqva_tx]
@[simp] theorem ne_txL {xs ys : List Str} : cmpV .ne (.list (tx xs)) (.list (tx ys)) = some (!decide (xs = ys)) := by
  have hz : neD (.list (tx xs)) (.list (tx ys)) = true := by simp [neD, eqD, eqOk, isSq, eqs_tx, PyData.depth, dep_tx]
  rw [cmp_ne, hz, Bool.or_true, if_pos rfl]
  show some (!PyData.eqvAll (tx xs) (tx ys)) = _
  rw [eqva_tx]
theorem at_tx {xs : List Str} {i : Int} : atI (tx xs) i = (atI xs i).map PyData.str := by
  unfold atI tx
  rw [List.length_map]
  cases ixN xs.length i with
  | none => rfl
  | some j => simp
/-- words that may be shown -/
theorem Tm.txT {k n m : Nat} {xs : List Str} (h : ∀ x ∈ xs, Tm k n (.str x)) (hm : xs.length * (n + 1) ≤ m) : Tm (k + 1) m (.tuple (tx xs)) := Tm.tup (fun d hd => by
  obtain ⟨x, h1, e⟩ := List.mem_map.mp hd
  exact e ▸ h x h1) (by simpa [tx] using hm)
theorem Tm.txL {k n m : Nat} {xs : List Str} (h : ∀ x ∈ xs, Tm k n (.str x)) (hm : xs.length * (n + 1) ≤ m) : Tm (k + 1) m (.list (tx xs)) := Tm.lst (fun d hd => by
  obtain ⟨x, h1, e⟩ := List.mem_map.mp hd
  exact e ▸ h x h1) (by simpa [tx] using hm)
end
end PV
namespace PV
open PySem PySem.Spec PyProof.Rows L2
/-! ### while -/
section
variable {Z : Exn → List Slot → Prop} {Φ : Env'} {ρ : List Slot} {Q : Fl → List Slot → Prop}
theorem es_whl {t : Te} {b : Sts} : wpM Z (exS Φ (.whl t b)) ρ Q ↔ wpM Z (whlGo (evT Φ t) (exSs Φ b) whlFuel) ρ Q := by rw [exS]
theorem whl_step {t : M Bool} {b : M Fl} {n : Nat} (h : wpM Z t ρ fun k ρ1 => (k = true → wpM Z b ρ1 (loopQ Q fun ρ2 => wpM Z (whlGo t b n) ρ2 Q)) ∧ (k = false → Q .nx ρ1)) : wpM Z (whlGo t b (n + 1)) ρ Q := by
  unfold whlGo
  rw [wp_bind]
  refine h.mono fun k ρ1 ⟨h1, h2⟩ => ?_
  cases k with
  | false => rw [if_neg (by decide), wp_pure]; exact h2 rfl
  | true =>
    rw [if_pos rfl, wp_bind]
    refine (h1 rfl).mono fun f ρ2 q => ?_
    cases f with
    | nx => exact q
    | cnt => exact q
    | brk => exact wp_pure.mpr q
    | ret r => exact wp_pure.mpr q
/-- a while, by what holds ahead of its k-th turn; fewer than m turns -/
theorem whl_inv {t : Te} {b : Sts} (m : Nat) (hm : m ≤ 1000000) (I : Nat → List Slot → Prop) (h0 : I 0 ρ)
    (step : ∀ k ρ, I k ρ → k < m ∧ wpM Z (evT Φ t) ρ fun c ρ1 => (c = true → wpM Z (exSs Φ b) ρ1 (loopQ Q (I (k + 1)))) ∧ (c = false → Q .nx ρ1)) : wpM Z (exS Φ (.whl t b)) ρ Q := by
  rw [es_whl]
  have go : ∀ n k ρ, m ≤ k + n → I k ρ → wpM Z (whlGo (evT Φ t) (exSs Φ b) n) ρ Q := by
    intro n
    induction n with
    | zero => intro k ρ hk hi; exact absurd (step k ρ hi).1 (by omega)
    | succ n ih =>
      intro k ρ hk hi
      refine whl_step ((step k ρ hi).2.mono fun c ρ1 ⟨h1, h2⟩ => ⟨fun e => (h1 e).mono fun f ρ2 h => ?_, h2⟩)
      cases f with
      | nx => exact ih (k + 1) ρ2 (by omega) h
      | cnt => exact ih (k + 1) ρ2 (by omega) h
      | brk => exact h
      | ret r => exact h
  exact go whlFuel 0 ρ (by show m ≤ 0 + 1000000; omega) h0
end
end PV
set_option Elab.async false
set_option linter.all false
set_option autoImplicit false
set_option maxRecDepth 100000
set_option maxHeartbeats 4000000
/-! PV: a thing compared with itself; a new list handed to a def that only reads it. -/
namespace PV
open PySem PySem.Spec PyProof.Rows L2
section
variable {Z : Exn → List Slot → Prop} {ρ : List Slot} {T : Bool → List Slot → Prop} {Q : Rv → List Slot → Prop}
theorem shaped_of {d : D} (h : d.canLay0 = true) (k : d.depth ≤ 64) : SeqAt.shaped d = true := by
  unfold SeqAt.shaped
  rw [h, Bool.true_and]
  exact decide_eq_true k
theorem lay_tx {xs : List Str} (h : ∀ x ∈ xs, PyData.canLay0 (.str x) = true) : PyData.canLayAll0 (tx xs) = true := by
  induction xs with
  | nil => rfl
  | cons x xs ih =>
    have e := h x (.head _)
    have ih : PyData.canLayAll0 (xs.map PyData.str) = true := ih fun y hy => h y (.tail _ hy)
    simp only [tx, List.map_cons, PyData.canLayAll0, e, ih, Bool.and_self]
theorem lay_tup {xs : List D} : PyData.canLay0 (.tuple xs) = PyData.canLayAll0 xs := by simp only [PyData.canLay0]
theorem lay_lst {xs : List D} : PyData.canLay0 (.list xs) = PyData.canLayAll0 xs := by simp only [PyData.canLay0]
theorem lay_cons {x : D} {xs : List D} : PyData.canLayAll0 (x :: xs) = (x.canLay0 && PyData.canLayAll0 xs) := rfl
theorem lay_nil : PyData.canLayAll0 [] = true := rfl
theorem eq_same {d : D} (h : d.canLay0 = true) (hk : d.depth ≤ 64) : wpM Z (lift (cmpV .eq d d)) ρ T ↔ T true ρ := by
  rw [cmp_eq, shaped_of h hk, PySem.SeqAt.eqv_refl d h]
  simp
theorem ne_same {d : D} (h : d.canLay0 = true) (hk : d.depth ≤ 64) : wpM Z (lift (cmpV .ne d d)) ρ T ↔ T false ρ := by
  rw [cmp_ne, shaped_of h hk, PySem.SeqAt.eqv_refl d h]
  simp
theorem eq_of_FR {S : FSem} {as as' : List Slot} {kw : List (Str × D)} {r : Rv} (h : ∀ Z Q, Q r as' → wpF Z S as kw Q) : S as kw = .ok r as' := by
  have z := h noX (fun x y => x = r ∧ y = as') ⟨rfl, rfl⟩
  unfold wpF at z
  cases q : S as kw with
  | ok r as' => rw [q] at z; obtain ⟨rfl, rfl⟩ := z; rfl
  | exc e as' => rw [q] at z; exact z.elim
  | stuck => rw [q] at z; exact z.elim
/-- a new list, then data -/
theorem callFr {S : FSem} {xs : List D} (ds : List D) {m : Mv} (h : ∀ Z Q, Q (.fr m) (.own (some 0) (.lst xs) :: ds.map .val) → wpF Z S (.own (some 0) (.lst xs) :: ds.map .val) [] Q) : wpM Z (callM S (.fr (.lst xs) :: ds.map .val) [] []) ρ Q ↔ Q (.fr m) ρ := by
  have e := eq_of_FR h
  have a1 : ∀ (k : Nat) (ds : List D), argsOf ρ k (ds.map .val) = some (ds.map .val) := by
    intro k ds
    induction ds generalizing k with
    | nil => rfl
    | cons d ds ih => simp [argsOf, argOf, ih]
  have a2 : ∀ (ds : List D) (ss : List Slot), ss.length = ds.length → backOf (ds.map .val) ss ρ = some ρ := by
    intro ds
    induction ds with
    | nil => intro ss h; cases ss <;> first | rfl | cases h
    | cons d ds ih => intro ss h; cases ss with
      | nil => cases h
      | cons s ss => exact ih ss (by simpa using h)
  have a3 : borNodup ρ (.fr (.lst xs) :: ds.map .val) = true := by
    have z := bor_vals (ρ := ρ) (ds := ds)
    unfold borNodup at z ⊢
    exact z
  refine wp_ok0 ?_
  unfold callM
  rw [a3]
  simp only [argsOf, argOf, a1, e, List.zip_nil_left, backOf, backOf_vals]
end
end PV
set_option Elab.async false
set_option linter.all false
set_option autoImplicit false
set_option maxRecDepth 100000
set_option maxHeartbeats 4000000
namespace PV.T
open PySem PySem.Spec PyProof.Rows L2 PV
def topS (i : Nat) : Stmt := PySem.Challenge.pw_deepedge_k19_reaches_needed_and_tidied.main.body.getD i (.Pass ⟨0, 0, 0, 0⟩)
def nb : List Str := ["abs", "all", "int", "isinstance", "len", "list", "max", "range", "repr", "tuple"]
def Φ0 : Env' := ((((Env'.nil.glob "DUP" (.str "dup")).glob "LEAST_REACH" (.int 2)).glob "POP" (.str "pop")).glob "SWAP" (.str "swap"))
def N_items_of : List Str := ["part", "item"]
def b_items_of : Sts :=
    (.cons (.ife (.or (.cons (.val (.isa (.var 0) .list)) (.cons (.and (.cons (.val (.isa (.var 0) .tuple)) (.cons (.val (.bi .all (.cons (.lc [("item", 1)] (.isa (.var 1) .tuple) (.nm 1) (.ex (.var 0)) .nil) .nil))) .nil))) .nil))) (.cons (.ret (.bi .list (.cons (.var 0) .nil)))
    .nil) .nil)
    (.cons (.ret (.lst (.cons (.var 0) .nil)))
    .nil))
def sh_items_of : List Shp := [⟨1, [], [], []⟩]
def S_items_of : FSem := semF Φ0 N_items_of.length (bSrc [] sh_items_of) b_items_of
abbrev Φ_items_of : Env' := Φ0
def Φ1 : Env' := Φ0.add "items_of" S_items_of
def N_joined : List Str := ["parts", "part", "item"]
def b_joined : Sts :=
    (.cons (.ret (.lc2 [("part", 1), ("item", 2)] [2] (.var 2) (.nm 1) (.ex (.var 0)) .nil (.nm 2) (.call "items_of" (.cons (.frz (.var 1)) .nil) .nil) .nil))
    .nil)
def sh_joined : List Shp := [⟨1, [], [], []⟩]
def S_joined : FSem := semF Φ1 N_joined.length (bSrc [] sh_joined) b_joined
abbrev Φ_joined : Env' := Φ1
def Φ2 : Env' := Φ1.add "joined" S_joined
def N_reach_needed : List Str := ["parts", "distance", "word", "distances"]
def b_reach_needed : Sts :=
    (.cons (.ret (.bi .max (.cons (.bin .add (.lst (.cons (.glob "LEAST_REACH") .nil)) (.lc2 [("word", 2), ("distances", 3), ("distance", 1)] [1] (.var 1) (.str [2] 3) (.ex (.call "joined" (.cons (.frz (.var 0)) .nil) .nil)) .nil (.nm 1) (.var 3) .nil)) .nil)))
    .nil)
def sh_reach_needed : List Shp := [⟨0, [], [], []⟩]
def S_reach_needed : FSem := semV Φ2 N_reach_needed.length 0 sh_reach_needed b_reach_needed
abbrev Φ_reach_needed : Env' := Φ2
def Φ3 : Env' := Φ2.add "reach_needed" S_reach_needed
def N_shorter : List Str := ["one", "other"]
def b_shorter : Sts :=
    (.cons (.ife (.or (.cons (.and (.cons (.cmp .eq (.idx (.var 0) (.cst (.int 0))) (.glob "SWAP")) (.cons (.cmp .eq (.var 0) (.var 1)) .nil))) (.cons (.and (.cons (.cmp .eq (.idx (.var 0) (.cst (.int 0))) (.glob "DUP")) (.cons (.cmp .eq (.var 1) (.tup (.cons (.glob "POP") .nil))) .nil))) .nil))) (.cons (.ret (.lst .nil))
    .nil) .nil)
    (.cons (.ret (.ife (.and (.cons (.cmp .eq (.var 0) (.tup (.cons (.glob "DUP") (.cons (.cst (.int 1)) .nil)))) (.cons (.cmp .eq (.var 1) (.tup (.cons (.glob "SWAP") (.cons (.cst (.int 1)) .nil)))) .nil))) (.lst (.cons (.var 0) .nil)) (.cst .none)))
    .nil))
def sh_shorter : List Shp := [⟨2, [], [], []⟩]
def S_shorter : FSem := semF Φ3 N_shorter.length (bSrc [] sh_shorter) b_shorter
abbrev Φ_shorter : Env' := Φ3
def Φ4 : Env' := Φ3.add "shorter" S_shorter
def N_tidied : List Str := ["parts", "left", "index", "found"]
def b_tidied : Sts :=
    (.cons (.asg (.nm 1) (.call "joined" (.cons (.frz (.var 0)) .nil) .nil))
    (.cons (.asg (.nm 2) (.cst (.int 0)))
    (.cons (.whl (.cmp .lt (.var 2) (.bin .sub (.bi .len (.cons (.var 1) .nil)) (.cst (.int 1)))) (.cons (.asg (.nm 3) (.call "shorter" (.cons (.idx (.var 1) (.var 2)) (.cons (.idx (.var 1) (.bin .add (.var 2) (.cst (.int 1)))) .nil)) .nil))
    (.cons (.ife (.cmp .is (.var 3) (.cst .none)) (.cons (.aug 2 .add (.cst (.int 1)))
    .nil) (.cons (.setS 1 (.yes (.var 2)) (.yes (.bin .add (.var 2) (.cst (.int 2)))) 3)
    (.cons (.asg (.nm 2) (.bi .max (.cons (.cst (.int 0)) (.cons (.bin .sub (.var 2) (.cst (.int 1))) .nil))))
    .nil)))
    .nil)))
    (.cons (.ret (.bi .tuple (.cons (.var 1) .nil)))
    .nil))))
def sh_tidied : List Shp := [⟨0, [], [], []⟩]
def S_tidied : FSem := semV Φ4 N_tidied.length 0 sh_tidied b_tidied
abbrev Φ_tidied : Env' := Φ4
def Φ5 : Env' := Φ4.add "tidied" S_tidied
def N__law_pen : List Str := ["_law_script"]
def b__law_pen : Sts :=
    (.cons (.ret (.lst (.cons (.bi .list (.cons (.slc (.var 0) .no (.yes (.cst (.int 63)))) .nil)) (.cons (.cst (.int 0)) (.cons (.cst (.int 0)) .nil)))))
    .nil)
def sh__law_pen : List Shp := [⟨1, [], [], []⟩]
def S__law_pen : FSem := semF Φ5 N__law_pen.length (bSrc [] sh__law_pen) b__law_pen
abbrev Φ__law_pen : Env' := Φ5
def Φ6 : Env' := Φ5.add "_law_pen" S__law_pen
def N__law_pick : List Str := ["_law_pen_here", "_law_upto", "_law_at", "_law_cell", "_law_first", "_law_second", "_law_digit", "_law_great"]
def b__law_pick : Sts :=
    (.cons (.ife (.cmp .gt (.idx (.var 0) (.cst (.int 2))) (.cst (.int 0))) (.cons (.asg (.nm 6) (.bin .mod (.idx (.var 0) (.cst (.int 2))) (.var 1)))
    (.cons (.setI 0 (.cst (.int 2)) (.bin .fdiv (.idx (.var 0) (.cst (.int 2))) (.var 1)))
    (.cons (.ret (.var 6))
    .nil))) .nil)
    (.cons (.asg (.nm 2) (.idx (.var 0) (.cst (.int 1))))
    (.cons (.setI 0 (.cst (.int 1)) (.bin .add (.var 2) (.cst (.int 1))))
    (.cons (.asg (.nm 3) (.bin .add (.bin .mul (.cst (.int 9601)) (.var 2)) (.cst (.int 113))))
    (.cons (.ife (.cmp .ne (.idx (.var 0) (.cst (.int 0))) (.lst .nil)) (.cons (.asg (.nm 3) (.idx (.idx (.var 0) (.cst (.int 0))) (.bin .mod (.var 2) (.bi .len (.cons (.idx (.var 0) (.cst (.int 0))) .nil)))))
    .nil) .nil)
    (.cons (.ife (.and (.cons (.cmp .lt (.var 2) (.bi .len (.cons (.idx (.var 0) (.cst (.int 0))) .nil))) (.cons (.cmp .ge (.bi .abs (.cons (.var 3) .nil)) (.bin .pow (.cst (.int 10)) (.cst (.int 18)))) .nil))) (.cons (.asg (.nm 7) (.bin .add (.bin .mul (.cst (.int 2)) (.bin .sub (.bi .abs (.cons (.var 3) .nil)) (.bin .pow (.cst (.int 10)) (.cst (.int 18))))) (.bi .int (.cons (.cmp .lt (.var 3) (.cst (.int 0))) .nil))))
    (.cons (.setI 0 (.cst (.int 2)) (.bin .fdiv (.var 7) (.var 1)))
    (.cons (.ret (.bin .mod (.var 7) (.var 1)))
    .nil))) .nil)
    (.cons (.asg (.nm 4) (.bin .mod (.bin .pow (.bin .add (.bin .add (.bin .add (.bin .mod (.var 3) (.cst (.int 2147483587))) (.bin .mul (.bin .mul (.cst (.int 44027)) (.var 2)) (.var 2))) (.bin .mul (.cst (.int 27011)) (.var 2))) (.cst (.int 83))) (.cst (.int 3))) (.cst (.int 2147483629))))
    (.cons (.asg (.nm 5) (.bin .mod (.bin .pow (.bin .add (.bin .mul (.var 4) (.bin .add (.bin .mul (.cst (.int 2)) (.var 2)) (.cst (.int 37)))) (.cst (.int 60013))) (.cst (.int 5))) (.cst (.int 2147483563))))
    (.cons (.ret (.bin .mod (.bin .fdiv (.var 5) (.cst (.int 64))) (.var 1)))
    .nil)))))))))
def sh__law_pick : List Shp := [⟨2, [], [], []⟩]
def S__law_pick : FSem := semF Φ6 N__law_pick.length (bSrc [] sh__law_pick) b__law_pick
abbrev Φ__law_pick : Env' := Φ6
def Φ7 : Env' := Φ6.add "_law_pick" S__law_pick
def N__law_deeds : List Str := ["_law_pen_here", "_law_many", "_law_most", "_law_way", "_law_found", "_law_k", "_law_far", "_law_kind"]
def b__law_deeds : Sts :=
    (.cons (.asg (.nm 3) (.call "_law_pick" (.cons (.var 0) (.cons (.cst (.int 4)) .nil)) .nil))
    (.cons (.asg (.nm 4) (.lst .nil))
    (.cons (.loop (.nm 5) (.rg1 (.var 1)) (.cons (.asg (.nm 6) (.bin .add (.cst (.int 1)) (.call "_law_pick" (.cons (.var 0) (.cons (.idx (.lst (.cons (.var 2) (.cons (.var 2) (.cons (.var 2) (.cons (.cst (.int 2)) .nil))))) (.var 3)) .nil)) .nil)))
    (.cons (.asg (.nm 7) (.idx (.lst (.cons (.cst (.int 0)) (.cons (.cst (.int 1)) (.cons (.cst (.int 2)) (.cons (.cst (.int 1)) (.cons (.cst (.int 2)) (.cons (.cst (.int 0)) (.cons (.cst (.int 2)) (.cons (.cst (.int 2)) .nil))))))))) (.call "_law_pick" (.cons (.var 0) (.cons (.cst (.int 8)) .nil)) .nil)))
    (.cons (.ife (.and (.cons (.cmp .eq (.var 3) (.cst (.int 1))) (.cons (.cmp .eq (.var 7) (.cst (.int 0))) .nil))) (.cons (.asg (.nm 7) (.cst (.int 2)))
    .nil) .nil)
    (.cons (.ife (.and (.cons (.cmp .eq (.var 3) (.cst (.int 2))) (.cons (.cmp .eq (.var 7) (.cst (.int 1))) .nil))) (.cons (.asg (.nm 7) (.cst (.int 0)))
    .nil) .nil)
    (.cons (.expr (.me .append 4 (.cons (.idx (.lst (.cons (.tup (.cons (.cst (.str "pop")) .nil)) (.cons (.tup (.cons (.cst (.str "dup")) (.cons (.var 6) .nil))) (.cons (.tup (.cons (.cst (.str "swap")) (.cons (.var 6) .nil))) .nil)))) (.var 7)) .nil)))
    .nil))))))
    (.cons (.ret (.bi .tuple (.cons (.var 4) .nil)))
    .nil))))
def sh__law_deeds : List Shp := [⟨3, [], [], []⟩]
def S__law_deeds : FSem := semF Φ7 N__law_deeds.length (bSrc [] sh__law_deeds) b__law_deeds
abbrev Φ__law_deeds : Env' := Φ7
def Φ8 : Env' := Φ7.add "_law_deeds" S__law_deeds
def N__law_nested : List Str := ["_law_pen_here", "_law_most", "_law_found", "_law_k", "_law_at", "_law_far", "_law_pair"]
def b__law_nested : Sts :=
    (.cons (.asg (.nm 2) (.call "_law_deeds" (.cons (.var 0) (.cons (.call "_law_pick" (.cons (.var 0) (.cons (.cst (.int 8)) .nil)) .nil) (.cons (.var 1) .nil))) .nil))
    (.cons (.loop (.nm 3) (.rg1 (.call "_law_pick" (.cons (.var 0) (.cons (.cst (.int 11)) .nil)) .nil)) (.cons (.asg (.nm 4) (.call "_law_pick" (.cons (.var 0) (.cons (.bin .add (.bi .len (.cons (.var 2) .nil)) (.cst (.int 1))) .nil)) .nil))
    (.cons (.asg (.nm 5) (.bin .add (.cst (.int 1)) (.call "_law_pick" (.cons (.var 0) (.cons (.var 1) .nil)) .nil)))
    (.cons (.asg (.nm 6) (.idx (.lst (.cons (.tup (.cons (.tup (.cons (.cst (.str "swap")) (.cons (.var 5) .nil))) (.cons (.tup (.cons (.cst (.str "swap")) (.cons (.var 5) .nil))) .nil))) (.cons (.tup (.cons (.tup (.cons (.cst (.str "dup")) (.cons (.var 5) .nil))) (.cons (.tup (.cons (.cst (.str "pop")) .nil)) .nil))) (.cons (.tup (.cons (.tup (.cons (.cst (.str "dup")) (.cons (.cst (.int 1)) .nil))) (.cons (.tup (.cons (.cst (.str "swap")) (.cons (.cst (.int 1)) .nil))) .nil))) .nil)))) (.call "_law_pick" (.cons (.var 0) (.cons (.cst (.int 3)) .nil)) .nil)))
    (.cons (.asg (.nm 2) (.bin .add (.bin .add (.slc (.var 2) .no (.yes (.var 4))) (.var 6)) (.slc (.var 2) (.yes (.var 4)) .no)))
    .nil)))))
    (.cons (.ret (.var 2))
    .nil)))
def sh__law_nested : List Shp := [⟨2, [], [], []⟩]
def S__law_nested : FSem := semF Φ8 N__law_nested.length (bSrc [] sh__law_nested) b__law_nested
abbrev Φ__law_nested : Env' := Φ8
def Φ9 : Env' := Φ8.add "_law_nested" S__law_nested
def N__law_after : List Str := ["_law_cells", "_law_deed", "_law_far", "_law_low"]
def b__law_after : Sts :=
    (.cons (.ife (.cmp .eq (.idx (.var 1) (.cst (.int 0))) (.cst (.str "pop"))) (.cons (.ret (.ife (.cmp .ne (.var 0) (.tup .nil)) (.slc (.var 0) .no (.yes (.neg (.cst (.int 1))))) (.cst .none)))
    .nil) .nil)
    (.cons (.asg (.nm 2) (.idx (.var 1) (.cst (.int 1))))
    (.cons (.ife (.cmp .eq (.idx (.var 1) (.cst (.int 0))) (.cst (.str "dup"))) (.cons (.ret (.ife (.cmp .le (.var 2) (.bi .len (.cons (.var 0) .nil))) (.bin .add (.var 0) (.tup (.cons (.idx (.var 0) (.bin .sub (.bi .len (.cons (.var 0) .nil)) (.var 2))) .nil))) (.cst .none)))
    .nil) .nil)
    (.cons (.ife (.cmp .ge (.var 2) (.bi .len (.cons (.var 0) .nil))) (.cons (.ret (.cst .none))
    .nil) .nil)
    (.cons (.asg (.nm 3) (.bin .sub (.bin .sub (.bi .len (.cons (.var 0) .nil)) (.cst (.int 1))) (.var 2)))
    (.cons (.ret (.bin .add (.bin .add (.bin .add (.slc (.var 0) .no (.yes (.var 3))) (.tup (.cons (.idx (.var 0) (.neg (.cst (.int 1)))) .nil))) (.slc (.var 0) (.yes (.bin .add (.var 3) (.cst (.int 1)))) (.yes (.neg (.cst (.int 1)))))) (.tup (.cons (.idx (.var 0) (.var 3)) .nil))))
    .nil))))))
def sh__law_after : List Shp := [⟨2, [], [], []⟩]
def S__law_after : FSem := semF Φ9 N__law_after.length (bSrc [] sh__law_after) b__law_after
abbrev Φ__law_after : Env' := Φ9
def Φ10 : Env' := Φ9.add "_law_after" S__law_after
def N__law_led : List Str := ["_law_cells", "_law_deeds_here", "_law_deed"]
def b__law_led : Sts :=
    (.cons (.loop (.nm 2) (.ex (.var 1)) (.cons (.ife (.cmp .isnot (.var 0) (.cst .none)) (.cons (.asg (.nm 0) (.call "_law_after" (.cons (.var 0) (.cons (.frz (.var 2)) .nil)) .nil))
    .nil) .nil)
    .nil))
    (.cons (.ret (.var 0))
    .nil))
def sh__law_led : List Shp := [⟨2, [], [], []⟩]
def S__law_led : FSem := semF Φ10 N__law_led.length (bSrc [] sh__law_led) b__law_led
abbrev Φ__law_led : Env' := Φ10
def Φ11 : Env' := Φ10.add "_law_led" S__law_led
def N__law_needs : List Str := ["_law_deed"]
def b__law_needs : Sts :=
    (.cons (.ife (.cmp .eq (.idx (.var 0) (.cst (.int 0))) (.cst (.str "pop"))) (.cons (.ret (.tup (.cons (.cst (.int 1)) (.cons (.neg (.cst (.int 1))) .nil))))
    .nil) .nil)
    (.cons (.ret (.ife (.cmp .eq (.idx (.var 0) (.cst (.int 0))) (.cst (.str "dup"))) (.tup (.cons (.idx (.var 0) (.cst (.int 1))) (.cons (.cst (.int 1)) .nil))) (.tup (.cons (.bin .add (.idx (.var 0) (.cst (.int 1))) (.cst (.int 1))) (.cons (.cst (.int 0)) .nil)))))
    .nil))
def sh__law_needs : List Shp := [⟨1, [], [], []⟩]
def S__law_needs : FSem := semF Φ11 N__law_needs.length (bSrc [] sh__law_needs) b__law_needs
abbrev Φ__law_needs : Env' := Φ11
def Φ12 : Env' := Φ11.add "_law_needs" S__law_needs
def N__law_card : List Str := ["_law_deeds_here", "_law_height", "_law_change", "_law_deed", "_law_needs_here", "_law_more"]
def b__law_card : Sts :=
    (.cons (.asg (.nm 1) (.cst (.int 0)))
    (.cons (.asg (.nm 2) (.cst (.int 0)))
    (.cons (.loop (.nm 3) (.ex (.var 0)) (.cons (.asg (.tup [4, 5]) (.call "_law_needs" (.cons (.frz (.var 3)) .nil) .nil))
    (.cons (.asg (.nm 1) (.bi .max (.cons (.var 1) (.cons (.bin .sub (.var 4) (.var 2)) .nil))))
    (.cons (.asg (.nm 2) (.bin .add (.var 2) (.var 5)))
    .nil))))
    (.cons (.ret (.tup (.cons (.var 1) (.cons (.call "_law_led" (.cons (.tupRg (.rg2 (.cst (.int 1)) (.bin .add (.var 1) (.cst (.int 1))))) (.cons (.var 0) .nil)) .nil) .nil))))
    .nil))))
def sh__law_card : List Shp := [⟨1, [], [], []⟩]
def S__law_card : FSem := semF Φ12 N__law_card.length (bSrc [] sh__law_card) b__law_card
abbrev Φ__law_card : Env' := Φ12
def Φ13 : Env' := Φ12.add "_law_card" S__law_card
def N__law_replaced : List Str := ["_law_deeds_here", "_law_at", "_law_one", "_law_other"]
def b__law_replaced : Sts :=
    (.cons (.loop (.nm 1) (.rg1 (.bin .sub (.bi .len (.cons (.var 0) .nil)) (.cst (.int 1)))) (.cons (.par 2 3 (.idx (.var 0) (.var 1)) (.idx (.var 0) (.bin .add (.var 1) (.cst (.int 1)))))
    (.cons (.ife (.or (.cons (.and (.cons (.cmp .eq (.idx (.var 2) (.cst (.int 0))) (.cst (.str "swap"))) (.cons (.cmp .eq (.var 2) (.var 3)) .nil))) (.cons (.and (.cons (.cmp .eq (.idx (.var 2) (.cst (.int 0))) (.cst (.str "dup"))) (.cons (.cmp .eq (.var 3) (.tup (.cons (.cst (.str "pop")) .nil))) .nil))) .nil))) (.cons (.ret (.bin .add (.slc (.var 0) .no (.yes (.var 1))) (.slc (.var 0) (.yes (.bin .add (.var 1) (.cst (.int 2)))) .no)))
    .nil) .nil)
    (.cons (.ife (.and (.cons (.cmp .eq (.var 2) (.tup (.cons (.cst (.str "dup")) (.cons (.cst (.int 1)) .nil)))) (.cons (.cmp .eq (.var 3) (.tup (.cons (.cst (.str "swap")) (.cons (.cst (.int 1)) .nil)))) .nil))) (.cons (.ret (.bin .add (.slc (.var 0) .no (.yes (.bin .add (.var 1) (.cst (.int 1))))) (.slc (.var 0) (.yes (.bin .add (.var 1) (.cst (.int 2)))) .no)))
    .nil) .nil)
    .nil))))
    (.cons (.ret (.cst .none))
    .nil))
def sh__law_replaced : List Shp := [⟨1, [], [], []⟩]
def S__law_replaced : FSem := semF Φ13 N__law_replaced.length (bSrc [] sh__law_replaced) b__law_replaced
abbrev Φ__law_replaced : Env' := Φ13
def Φ14 : Env' := Φ13.add "_law_replaced" S__law_replaced
def N__law_due : List Str := ["_law_deeds_here", "_law_later"]
def b__law_due : Sts :=
    (.cons (.asg (.nm 1) (.call "_law_replaced" (.cons (.var 0) .nil) .nil))
    (.cons (.whl (.cmp .isnot (.var 1) (.cst .none)) (.cons (.asg (.nm 0) (.var 1))
    (.cons (.asg (.nm 1) (.call "_law_replaced" (.cons (.var 0) .nil) .nil))
    .nil)))
    (.cons (.ret (.var 0))
    .nil)))
def sh__law_due : List Shp := [⟨1, [], [], []⟩]
def S__law_due : FSem := semF Φ14 N__law_due.length (bSrc [] sh__law_due) b__law_due
abbrev Φ__law_due : Env' := Φ14
def Φ15 : Env' := Φ14.add "_law_due" S__law_due
def N__law_right : List Str := ["_law_deeds_here", "_law_kept", "_law_due_here", "_law_whole", "_law_most", "_law_height", "_law_word", "_law_deed"]
def b__law_right : Sts :=
    (.cons (.asg (.nm 1) (.bi .repr (.cons (.var 0) .nil)))
    (.cons (.asg (.nm 2) (.call "_law_due" (.cons (.var 0) .nil) .nil))
    (.cons (.ife (.or (.cons (.cmp .ne (.bi .repr (.cons (.call "tidied" (.cons (.var 0) .nil) .nil) .nil)) (.bi .repr (.cons (.var 2) .nil))) (.cons (.cmp .ne (.bi .repr (.cons (.call "tidied" (.cons (.frz (.bi .list (.cons (.slc (.var 0) .no (.yes (.cst (.int 2)))) .nil))) (.cons (.frz (.slc (.var 0) (.yes (.cst (.int 2))) .no)) .nil)) .nil) .nil)) (.bi .repr (.cons (.var 2) .nil))) .nil))) (.cons (.ret (.cst (.bool false)))
    .nil) .nil)
    (.cons (.asg (.nm 3) (.bi .list (.cons (.var 0) .nil)))
    (.cons (.ife (.cmp .ne (.bi .repr (.cons (.lst (.cons (.call "tidied" (.cons (.frz (.var 3)) .nil) .nil) (.cons (.call "tidied" (.cons (.frz (.var 3)) .nil) .nil) (.cons (.var 3) .nil)))) .nil)) (.bi .repr (.cons (.lst (.cons (.var 2) (.cons (.var 2) (.cons (.bi .list (.cons (.var 0) .nil)) .nil)))) .nil))) (.cons (.ret (.cst (.bool false)))
    .nil) .nil)
    (.cons (.asg (.nm 4) (.bi .max (.cons (.bin .add (.lst (.cons (.cst (.int 2)) .nil)) (.lc [("_law_deed", 7)] (.idx (.var 7) (.cst (.int 1))) (.nm 7) (.ex (.var 0)) (.cons (.cmp .eq (.bi .len (.cons (.var 7) .nil)) (.cst (.int 2))) .nil))) .nil)))
    (.cons (.ife (.cmp .ne (.bi .repr (.cons (.lst (.cons (.call "reach_needed" (.cons (.frz (.var 3)) .nil) .nil) (.cons (.var 3) .nil))) .nil)) (.bi .repr (.cons (.lst (.cons (.var 4) (.cons (.bi .list (.cons (.var 0) .nil)) .nil))) .nil))) (.cons (.ret (.cst (.bool false)))
    .nil) .nil)
    (.cons (.ife (.cmp .ne (.bi .repr (.cons (.lst (.cons (.call "reach_needed" (.cons (.var 0) .nil) .nil) (.cons (.call "reach_needed" (.cons (.frz (.slc (.var 0) (.yes (.cst (.int 1))) .no)) (.cons (.frz (.slc (.var 0) .no (.yes (.cst (.int 1))))) .nil)) .nil) .nil))) .nil)) (.bi .repr (.cons (.lst (.cons (.var 4) (.cons (.var 4) .nil))) .nil))) (.cons (.ret (.cst (.bool false)))
    .nil) .nil)
    (.cons (.asg (.tup [5, 6]) (.call "_law_card" (.cons (.var 0) .nil) .nil))
    (.cons (.ret (.andv (.cmp .eq (.call "_law_led" (.cons (.tupRg (.rg2 (.cst (.int 1)) (.bin .add (.var 5) (.cst (.int 1))))) (.cons (.frz (.var 2)) .nil)) .nil) (.var 6)) (.cmp .eq (.bi .repr (.cons (.var 0) .nil)) (.var 1))))
    .nil))))))))))
def sh__law_right : List Shp := [⟨1, [], [], []⟩]
def S__law_right : FSem := semF Φ15 N__law_right.length (bSrc [] sh__law_right) b__law_right
abbrev Φ__law_right : Env' := Φ15
def Φ16 : Env' := Φ15.add "_law_right" S__law_right
def N_law : List Str := ["_law_script", "_law_pen_here", "_law_turn"]
def b_law : Sts :=
    (.cons (.asg (.nm 1) (.call "_law_pen" (.cons (.var 0) .nil) .nil))
    (.cons (.loop (.nm 2) (.rg1 (.cst (.int 8))) (.cons (.ife (.not (.val (.call "_law_right" (.cons (.call "_law_nested" (.cons (.var 1) (.cons (.idx (.lst (.cons (.cst (.int 1)) (.cons (.cst (.int 3)) (.cons (.cst (.int 40)) .nil)))) (.call "_law_pick" (.cons (.var 1) (.cons (.cst (.int 3)) .nil)) .nil)) .nil)) .nil) .nil) .nil))) (.cons (.ret (.cst (.bool false)))
    .nil) .nil)
    .nil))
    (.cons (.ife (.or (.cons (.cmp .ne (.call "tidied" .nil .nil) (.tup .nil)) (.cons (.cmp .ne (.call "reach_needed" .nil .nil) (.cst (.int 2))) (.cons (.cmp .ne (.call "tidied" (.cons (.tup (.cons (.cst (.str "pop")) .nil)) .nil) .nil) (.tup (.cons (.tup (.cons (.cst (.str "pop")) .nil)) .nil))) (.cons (.cmp .ne (.call "reach_needed" (.cons (.tup (.cons (.cst (.str "swap")) (.cons (.cst (.int 7)) .nil))) .nil) .nil) (.cst (.int 7))) .nil))))) (.cons (.ret (.cst (.bool false)))
    .nil) .nil)
    (.cons (.ret (.cmp .eq (.call "tidied" (.cons (.tup (.cons (.cst (.str "dup")) (.cons (.cst (.int 1)) .nil))) (.cons (.tup (.cons (.cst (.str "dup")) (.cons (.cst (.int 1)) .nil))) (.cons (.tup (.cons (.cst (.str "swap")) (.cons (.cst (.int 1)) .nil))) (.cons (.tup (.cons (.cst (.str "pop")) .nil)) (.cons (.tup (.cons (.cst (.str "pop")) .nil)) .nil))))) .nil) (.tup .nil)))
    .nil))))
def sh_law : List Shp := [⟨1, [], [], []⟩]
def S_law : FSem := semF Φ16 N_law.length (bSrc [] sh_law) b_law
abbrev Φ_law : Env' := Φ16
def Φ17 : Env' := Φ16.add "law" S_law
theorem sc_items_of : FnScope N_items_of ["part"] (defScope (topS 5)) := scB_ok (by decide +kernel)
theorem ch_items_of : chSs ⟨N_items_of, defScope (topS 5), nb, false, defScope (topS 5)⟩ [] b_items_of (defBody (topS 5)) = true := by decide +kernel
theorem sc_joined : FnScope N_joined ["parts"] (defScope (topS 6)) := scB_ok (by decide +kernel)
theorem ch_joined : chSs ⟨N_joined, defScope (topS 6), nb, false, defScope (topS 6)⟩ [] b_joined (defBody (topS 6)) = true := by decide +kernel
theorem sc_reach_needed : FnScope N_reach_needed (([] : List Str) ++ (["parts"] : List Str)) (defScope (topS 8)) := scB_ok (by decide +kernel)
theorem ch_reach_needed : chSs ⟨N_reach_needed, defScope (topS 8), nb, false, defScope (topS 8)⟩ [] b_reach_needed (defBody (topS 8)) = true := by decide +kernel
theorem sc_shorter : FnScope N_shorter ["one", "other"] (defScope (topS 9)) := scB_ok (by decide +kernel)
theorem ch_shorter : chSs ⟨N_shorter, defScope (topS 9), nb, false, defScope (topS 9)⟩ [] b_shorter (defBody (topS 9)) = true := by decide +kernel
theorem sc_tidied : FnScope N_tidied (([] : List Str) ++ (["parts"] : List Str)) (defScope (topS 10)) := scB_ok (by decide +kernel)
theorem ch_tidied : chSs ⟨N_tidied, defScope (topS 10), nb, false, defScope (topS 10)⟩ [] b_tidied (defBody (topS 10)) = true := by decide +kernel
theorem sc__law_pen : FnScope N__law_pen ["_law_script"] (defScope (topS 12)) := scB_ok (by decide +kernel)
theorem ch__law_pen : chSs ⟨N__law_pen, defScope (topS 12), nb, false, defScope (topS 12)⟩ [] b__law_pen (defBody (topS 12)) = true := by decide +kernel
theorem sc__law_pick : FnScope N__law_pick ["_law_pen_here", "_law_upto"] (defScope (topS 13)) := scB_ok (by decide +kernel)
theorem ch__law_pick : chSs ⟨N__law_pick, defScope (topS 13), nb, false, defScope (topS 13)⟩ [] b__law_pick (defBody (topS 13)) = true := by decide +kernel
theorem sc__law_deeds : FnScope N__law_deeds ["_law_pen_here", "_law_many", "_law_most"] (defScope (topS 16)) := scB_ok (by decide +kernel)
theorem ch__law_deeds : chSs ⟨N__law_deeds, defScope (topS 16), nb, false, defScope (topS 16)⟩ [] b__law_deeds (defBody (topS 16)) = true := by decide +kernel
theorem sc__law_nested : FnScope N__law_nested ["_law_pen_here", "_law_most"] (defScope (topS 19)) := scB_ok (by decide +kernel)
theorem ch__law_nested : chSs ⟨N__law_nested, defScope (topS 19), nb, false, defScope (topS 19)⟩ [] b__law_nested (defBody (topS 19)) = true := by decide +kernel
theorem sc__law_after : FnScope N__law_after ["_law_cells", "_law_deed"] (defScope (topS 14)) := scB_ok (by decide +kernel)
theorem ch__law_after : chSs ⟨N__law_after, defScope (topS 14), nb, false, defScope (topS 14)⟩ [] b__law_after (defBody (topS 14)) = true := by decide +kernel
theorem sc__law_led : FnScope N__law_led ["_law_cells", "_law_deeds_here"] (defScope (topS 15)) := scB_ok (by decide +kernel)
theorem ch__law_led : chSs ⟨N__law_led, defScope (topS 15), nb, false, defScope (topS 15)⟩ [] b__law_led (defBody (topS 15)) = true := by decide +kernel
theorem sc__law_needs : FnScope N__law_needs ["_law_deed"] (defScope (topS 17)) := scB_ok (by decide +kernel)
theorem ch__law_needs : chSs ⟨N__law_needs, defScope (topS 17), nb, false, defScope (topS 17)⟩ [] b__law_needs (defBody (topS 17)) = true := by decide +kernel
theorem sc__law_card : FnScope N__law_card ["_law_deeds_here"] (defScope (topS 18)) := scB_ok (by decide +kernel)
theorem ch__law_card : chSs ⟨N__law_card, defScope (topS 18), nb, false, defScope (topS 18)⟩ [] b__law_card (defBody (topS 18)) = true := by decide +kernel
theorem sc__law_replaced : FnScope N__law_replaced ["_law_deeds_here"] (defScope (topS 20)) := scB_ok (by decide +kernel)
theorem ch__law_replaced : chSs ⟨N__law_replaced, defScope (topS 20), nb, false, defScope (topS 20)⟩ [] b__law_replaced (defBody (topS 20)) = true := by decide +kernel
theorem sc__law_due : FnScope N__law_due ["_law_deeds_here"] (defScope (topS 21)) := scB_ok (by decide +kernel)
theorem ch__law_due : chSs ⟨N__law_due, defScope (topS 21), nb, false, defScope (topS 21)⟩ [] b__law_due (defBody (topS 21)) = true := by decide +kernel
theorem sc__law_right : FnScope N__law_right ["_law_deeds_here"] (defScope (topS 22)) := scB_ok (by decide +kernel)
theorem ch__law_right : chSs ⟨N__law_right, defScope (topS 22), nb, false, defScope (topS 22)⟩ [] b__law_right (defBody (topS 22)) = true := by decide +kernel
theorem sc_law : FnScope N_law ["_law_script"] (defScope (topS 23)) := scB_ok (by decide +kernel)
theorem ch_law : chSs ⟨N_law, defScope (topS 23), nb, false, defScope (topS 23)⟩ [] b_law (defBody (topS 23)) = true := by decide +kernel
@[simp] theorem fn_joined_items_of : Φ1.fn "items_of" = some S_items_of := rfl
@[simp] theorem fn_reach_needed_joined : Φ2.fn "joined" = some S_joined := rfl
@[simp] theorem gc_reach_needed_LEAST_REACH : Φ2.gc "LEAST_REACH" = some (.int 2) := rfl
@[simp] theorem gc_shorter_DUP : Φ3.gc "DUP" = some (.str "dup") := rfl
@[simp] theorem gc_shorter_POP : Φ3.gc "POP" = some (.str "pop") := rfl
@[simp] theorem gc_shorter_SWAP : Φ3.gc "SWAP" = some (.str "swap") := rfl
@[simp] theorem fn_tidied_joined : Φ4.fn "joined" = some S_joined := rfl
@[simp] theorem fn_tidied_shorter : Φ4.fn "shorter" = some S_shorter := rfl
@[simp] theorem fn__law_deeds__law_pick : Φ7.fn "_law_pick" = some S__law_pick := rfl
@[simp] theorem fn__law_nested__law_deeds : Φ8.fn "_law_deeds" = some S__law_deeds := rfl
@[simp] theorem fn__law_nested__law_pick : Φ8.fn "_law_pick" = some S__law_pick := rfl
@[simp] theorem fn__law_led__law_after : Φ10.fn "_law_after" = some S__law_after := rfl
@[simp] theorem fn__law_card__law_led : Φ12.fn "_law_led" = some S__law_led := rfl
@[simp] theorem fn__law_card__law_needs : Φ12.fn "_law_needs" = some S__law_needs := rfl
@[simp] theorem fn__law_due__law_replaced : Φ14.fn "_law_replaced" = some S__law_replaced := rfl
@[simp] theorem fn__law_right__law_card : Φ15.fn "_law_card" = some S__law_card := rfl
@[simp] theorem fn__law_right__law_due : Φ15.fn "_law_due" = some S__law_due := rfl
@[simp] theorem fn__law_right__law_led : Φ15.fn "_law_led" = some S__law_led := rfl
@[simp] theorem fn__law_right_reach_needed : Φ15.fn "reach_needed" = some S_reach_needed := rfl
@[simp] theorem fn__law_right_tidied : Φ15.fn "tidied" = some S_tidied := rfl
@[simp] theorem fn_law__law_nested : Φ16.fn "_law_nested" = some S__law_nested := rfl
@[simp] theorem fn_law__law_pen : Φ16.fn "_law_pen" = some S__law_pen := rfl
@[simp] theorem fn_law__law_pick : Φ16.fn "_law_pick" = some S__law_pick := rfl
@[simp] theorem fn_law__law_right : Φ16.fn "_law_right" = some S__law_right := rfl
@[simp] theorem fn_law_reach_needed : Φ16.fn "reach_needed" = some S_reach_needed := rfl
@[simp] theorem fn_law_tidied : Φ16.fn "tidied" = some S_tidied := rfl
theorem draw_ok : DrawOk S__law_pick := drawC_ok (B := bSrc [] sh__law_pick) rfl (n1 := 9601) (n2 := 113) (n3 := 2147483587) (n4 := 44027) (n5 := 27011) (n6 := 83) (n7 := 2147483629) (n8 := 37) (n9 := 60013) (n11 := 2147483563) (n12 := 64) ⟨by decide, by decide⟩ ⟨by decide, by decide⟩ ⟨by decide, by decide⟩ ⟨by decide, by decide⟩ ⟨by decide, by decide⟩ ⟨by decide, by decide⟩ ⟨by decide, by decide⟩ ⟨by decide, by decide⟩ ⟨by decide, by decide⟩ ⟨by decide, by decide⟩ ⟨by decide, by decide⟩
theorem c_pen {Z : Exn → List Slot → Prop} {l : List Int} (h : l.length ≤ 63) {ρ : List Slot} {Q : Rv → List Slot → Prop} : wpM Z (callM S__law_pen [.val (.list (l.map .int))] [] []) ρ Q ↔ Q (.fr (.lst (Pen l 0 0))) ρ := pen_call (B := bSrc [] sh__law_pen) rfl rfl h
section
variable {P : Program} {w : World} {K : Frg} {mg : Str → Option Value} {base : Heap}
theorem sk_items_of : ∀ s ∈ sh_items_of, ShOk "items_of" (topS 5) ["part"] 0 s ∧ ∀ q ∈ s.ms, q ∈ ([] : List (Str × D)) := by
  intro s hs
  unfold sh_items_of at hs
  simp only [List.mem_cons, List.not_mem_nil, or_false] at hs
  rcases hs with rfl
  · refine ⟨⟨rfl, fun dV kV doc pm an cdv ct A us its mv ws ues hu hi hm hw hp hk => ?_⟩, ?_⟩
    · match us, its, mv, ws, hu, hi, hm, hw, hp with
      | [_], [], [], [], _, _, _, _, hp =>
        cases hp
        exact ⟨fun _ e => by cases e; exact rfl, fun z => absurd rfl z⟩
    · intro q hq; simpa using hq
theorem sk_joined : ∀ s ∈ sh_joined, ShOk "joined" (topS 6) ["parts"] 0 s ∧ ∀ q ∈ s.ms, q ∈ ([] : List (Str × D)) := by
  intro s hs
  unfold sh_joined at hs
  simp only [List.mem_cons, List.not_mem_nil, or_false] at hs
  rcases hs with rfl
  · refine ⟨⟨rfl, fun dV kV doc pm an cdv ct A us its mv ws ues hu hi hm hw hp hk => ?_⟩, ?_⟩
    · match us, its, mv, ws, hu, hi, hm, hw, hp with
      | [_], [], [], [], _, _, _, _, hp =>
        cases hp
        exact ⟨fun _ e => by cases e; exact rfl, fun z => absurd rfl z⟩
    · intro q hq; simpa using hq
theorem sk_reach_needed : ∀ s ∈ sh_reach_needed, ShOkV "reach_needed" (topS 8) [] "parts" 0 s ∧ ∀ q ∈ s.ms, q ∈ ([] : List (Str × D)) := by
  intro s hs
  unfold sh_reach_needed at hs
  simp only [List.mem_cons, List.not_mem_nil, or_false] at hs
  rcases hs with rfl
  · refine ⟨⟨rfl, rfl, fun kV doc pm an cdv ct A us rest mv ws ues hu hm hw hp hk => ?_⟩, ?_⟩
    · match us, mv, ws, hu, hm, hw, hp with
      | [], [], [], _, _, _, hp =>
        cases hp
        cases rest with
        | nil => exact rfl
        | cons r rs => exact rfl
    · intro q hq; simpa using hq
theorem sk_shorter : ∀ s ∈ sh_shorter, ShOk "shorter" (topS 9) ["one", "other"] 0 s ∧ ∀ q ∈ s.ms, q ∈ ([] : List (Str × D)) := by
  intro s hs
  unfold sh_shorter at hs
  simp only [List.mem_cons, List.not_mem_nil, or_false] at hs
  rcases hs with rfl
  · refine ⟨⟨rfl, fun dV kV doc pm an cdv ct A us its mv ws ues hu hi hm hw hp hk => ?_⟩, ?_⟩
    · match us, its, mv, ws, hu, hi, hm, hw, hp with
      | [_, _], [], [], [], _, _, _, _, hp =>
        cases hp
        exact ⟨fun _ e => by cases e; exact rfl, fun z => absurd rfl z⟩
    · intro q hq; simpa using hq
theorem sk_tidied : ∀ s ∈ sh_tidied, ShOkV "tidied" (topS 10) [] "parts" 0 s ∧ ∀ q ∈ s.ms, q ∈ ([] : List (Str × D)) := by
  intro s hs
  unfold sh_tidied at hs
  simp only [List.mem_cons, List.not_mem_nil, or_false] at hs
  rcases hs with rfl
  · refine ⟨⟨rfl, rfl, fun kV doc pm an cdv ct A us rest mv ws ues hu hm hw hp hk => ?_⟩, ?_⟩
    · match us, mv, ws, hu, hm, hw, hp with
      | [], [], [], _, _, _, hp =>
        cases hp
        cases rest with
        | nil => exact rfl
        | cons r rs => exact rfl
    · intro q hq; simpa using hq
theorem sk__law_pen : ∀ s ∈ sh__law_pen, ShOk "_law_pen" (topS 12) ["_law_script"] 0 s ∧ ∀ q ∈ s.ms, q ∈ ([] : List (Str × D)) := by
  intro s hs
  unfold sh__law_pen at hs
  simp only [List.mem_cons, List.not_mem_nil, or_false] at hs
  rcases hs with rfl
  · refine ⟨⟨rfl, fun dV kV doc pm an cdv ct A us its mv ws ues hu hi hm hw hp hk => ?_⟩, ?_⟩
    · match us, its, mv, ws, hu, hi, hm, hw, hp with
      | [_], [], [], [], _, _, _, _, hp =>
        cases hp
        exact ⟨fun _ e => by cases e; exact rfl, fun z => absurd rfl z⟩
    · intro q hq; simpa using hq
theorem sk__law_pick : ∀ s ∈ sh__law_pick, ShOk "_law_pick" (topS 13) ["_law_pen_here", "_law_upto"] 0 s ∧ ∀ q ∈ s.ms, q ∈ ([] : List (Str × D)) := by
  intro s hs
  unfold sh__law_pick at hs
  simp only [List.mem_cons, List.not_mem_nil, or_false] at hs
  rcases hs with rfl
  · refine ⟨⟨rfl, fun dV kV doc pm an cdv ct A us its mv ws ues hu hi hm hw hp hk => ?_⟩, ?_⟩
    · match us, its, mv, ws, hu, hi, hm, hw, hp with
      | [_, _], [], [], [], _, _, _, _, hp =>
        cases hp
        exact ⟨fun _ e => by cases e; exact rfl, fun z => absurd rfl z⟩
    · intro q hq; simpa using hq
theorem sk__law_deeds : ∀ s ∈ sh__law_deeds, ShOk "_law_deeds" (topS 16) ["_law_pen_here", "_law_many", "_law_most"] 0 s ∧ ∀ q ∈ s.ms, q ∈ ([] : List (Str × D)) := by
  intro s hs
  unfold sh__law_deeds at hs
  simp only [List.mem_cons, List.not_mem_nil, or_false] at hs
  rcases hs with rfl
  · refine ⟨⟨rfl, fun dV kV doc pm an cdv ct A us its mv ws ues hu hi hm hw hp hk => ?_⟩, ?_⟩
    · match us, its, mv, ws, hu, hi, hm, hw, hp with
      | [_, _, _], [], [], [], _, _, _, _, hp =>
        cases hp
        exact ⟨fun _ e => by cases e; exact rfl, fun z => absurd rfl z⟩
    · intro q hq; simpa using hq
theorem sk__law_nested : ∀ s ∈ sh__law_nested, ShOk "_law_nested" (topS 19) ["_law_pen_here", "_law_most"] 0 s ∧ ∀ q ∈ s.ms, q ∈ ([] : List (Str × D)) := by
  intro s hs
  unfold sh__law_nested at hs
  simp only [List.mem_cons, List.not_mem_nil, or_false] at hs
  rcases hs with rfl
  · refine ⟨⟨rfl, fun dV kV doc pm an cdv ct A us its mv ws ues hu hi hm hw hp hk => ?_⟩, ?_⟩
    · match us, its, mv, ws, hu, hi, hm, hw, hp with
      | [_, _], [], [], [], _, _, _, _, hp =>
        cases hp
        exact ⟨fun _ e => by cases e; exact rfl, fun z => absurd rfl z⟩
    · intro q hq; simpa using hq
theorem sk__law_after : ∀ s ∈ sh__law_after, ShOk "_law_after" (topS 14) ["_law_cells", "_law_deed"] 0 s ∧ ∀ q ∈ s.ms, q ∈ ([] : List (Str × D)) := by
  intro s hs
  unfold sh__law_after at hs
  simp only [List.mem_cons, List.not_mem_nil, or_false] at hs
  rcases hs with rfl
  · refine ⟨⟨rfl, fun dV kV doc pm an cdv ct A us its mv ws ues hu hi hm hw hp hk => ?_⟩, ?_⟩
    · match us, its, mv, ws, hu, hi, hm, hw, hp with
      | [_, _], [], [], [], _, _, _, _, hp =>
        cases hp
        exact ⟨fun _ e => by cases e; exact rfl, fun z => absurd rfl z⟩
    · intro q hq; simpa using hq
theorem sk__law_led : ∀ s ∈ sh__law_led, ShOk "_law_led" (topS 15) ["_law_cells", "_law_deeds_here"] 0 s ∧ ∀ q ∈ s.ms, q ∈ ([] : List (Str × D)) := by
  intro s hs
  unfold sh__law_led at hs
  simp only [List.mem_cons, List.not_mem_nil, or_false] at hs
  rcases hs with rfl
  · refine ⟨⟨rfl, fun dV kV doc pm an cdv ct A us its mv ws ues hu hi hm hw hp hk => ?_⟩, ?_⟩
    · match us, its, mv, ws, hu, hi, hm, hw, hp with
      | [_, _], [], [], [], _, _, _, _, hp =>
        cases hp
        exact ⟨fun _ e => by cases e; exact rfl, fun z => absurd rfl z⟩
    · intro q hq; simpa using hq
theorem sk__law_needs : ∀ s ∈ sh__law_needs, ShOk "_law_needs" (topS 17) ["_law_deed"] 0 s ∧ ∀ q ∈ s.ms, q ∈ ([] : List (Str × D)) := by
  intro s hs
  unfold sh__law_needs at hs
  simp only [List.mem_cons, List.not_mem_nil, or_false] at hs
  rcases hs with rfl
  · refine ⟨⟨rfl, fun dV kV doc pm an cdv ct A us its mv ws ues hu hi hm hw hp hk => ?_⟩, ?_⟩
    · match us, its, mv, ws, hu, hi, hm, hw, hp with
      | [_], [], [], [], _, _, _, _, hp =>
        cases hp
        exact ⟨fun _ e => by cases e; exact rfl, fun z => absurd rfl z⟩
    · intro q hq; simpa using hq
theorem sk__law_card : ∀ s ∈ sh__law_card, ShOk "_law_card" (topS 18) ["_law_deeds_here"] 0 s ∧ ∀ q ∈ s.ms, q ∈ ([] : List (Str × D)) := by
  intro s hs
  unfold sh__law_card at hs
  simp only [List.mem_cons, List.not_mem_nil, or_false] at hs
  rcases hs with rfl
  · refine ⟨⟨rfl, fun dV kV doc pm an cdv ct A us its mv ws ues hu hi hm hw hp hk => ?_⟩, ?_⟩
    · match us, its, mv, ws, hu, hi, hm, hw, hp with
      | [_], [], [], [], _, _, _, _, hp =>
        cases hp
        exact ⟨fun _ e => by cases e; exact rfl, fun z => absurd rfl z⟩
    · intro q hq; simpa using hq
theorem sk__law_replaced : ∀ s ∈ sh__law_replaced, ShOk "_law_replaced" (topS 20) ["_law_deeds_here"] 0 s ∧ ∀ q ∈ s.ms, q ∈ ([] : List (Str × D)) := by
  intro s hs
  unfold sh__law_replaced at hs
  simp only [List.mem_cons, List.not_mem_nil, or_false] at hs
  rcases hs with rfl
  · refine ⟨⟨rfl, fun dV kV doc pm an cdv ct A us its mv ws ues hu hi hm hw hp hk => ?_⟩, ?_⟩
    · match us, its, mv, ws, hu, hi, hm, hw, hp with
      | [_], [], [], [], _, _, _, _, hp =>
        cases hp
        exact ⟨fun _ e => by cases e; exact rfl, fun z => absurd rfl z⟩
    · intro q hq; simpa using hq
theorem sk__law_due : ∀ s ∈ sh__law_due, ShOk "_law_due" (topS 21) ["_law_deeds_here"] 0 s ∧ ∀ q ∈ s.ms, q ∈ ([] : List (Str × D)) := by
  intro s hs
  unfold sh__law_due at hs
  simp only [List.mem_cons, List.not_mem_nil, or_false] at hs
  rcases hs with rfl
  · refine ⟨⟨rfl, fun dV kV doc pm an cdv ct A us its mv ws ues hu hi hm hw hp hk => ?_⟩, ?_⟩
    · match us, its, mv, ws, hu, hi, hm, hw, hp with
      | [_], [], [], [], _, _, _, _, hp =>
        cases hp
        exact ⟨fun _ e => by cases e; exact rfl, fun z => absurd rfl z⟩
    · intro q hq; simpa using hq
theorem sk__law_right : ∀ s ∈ sh__law_right, ShOk "_law_right" (topS 22) ["_law_deeds_here"] 0 s ∧ ∀ q ∈ s.ms, q ∈ ([] : List (Str × D)) := by
  intro s hs
  unfold sh__law_right at hs
  simp only [List.mem_cons, List.not_mem_nil, or_false] at hs
  rcases hs with rfl
  · refine ⟨⟨rfl, fun dV kV doc pm an cdv ct A us its mv ws ues hu hi hm hw hp hk => ?_⟩, ?_⟩
    · match us, its, mv, ws, hu, hi, hm, hw, hp with
      | [_], [], [], [], _, _, _, _, hp =>
        cases hp
        exact ⟨fun _ e => by cases e; exact rfl, fun z => absurd rfl z⟩
    · intro q hq; simpa using hq
theorem sk_law : ∀ s ∈ sh_law, ShOk "law" (topS 23) ["_law_script"] 0 s ∧ ∀ q ∈ s.ms, q ∈ ([] : List (Str × D)) := by
  intro s hs
  unfold sh_law at hs
  simp only [List.mem_cons, List.not_mem_nil, or_false] at hs
  rcases hs with rfl
  · refine ⟨⟨rfl, fun dV kV doc pm an cdv ct A us its mv ws ues hu hi hm hw hp hk => ?_⟩, ?_⟩
    · match us, its, mv, ws, hu, hi, hm, hw, hp with
      | [_], [], [], [], _, _, _, _, hp =>
        cases hp
        exact ⟨fun _ e => by cases e; exact rfl, fun z => absurd rfl z⟩
    · intro q hq; simpa using hq
theorem table {f0 f1 f2 f3 f4 f5 f6 f7 f8 f9 f10 f11 f12 f13 f14 f15 f16 : Addr} (nbs : ∀ y, y ∈ nb → mg y = none) (c0 : ∃ u, mg "DUP" = some u ∧ DfV K u (.str "dup")) (c1 : ∃ u, mg "LEAST_REACH" = some u ∧ DfV K u (.int 2)) (c2 : ∃ u, mg "POP" = some u ∧ DfV K u (.str "pop")) (c3 : ∃ u, mg "SWAP" = some u ∧ DfV K u (.str "swap"))  (F0 : ∃ fd, FunV K "items_of" (topS 5) [] [] f0 fd) (g0 : mg "items_of" = some (.ref f0)) (k0 : PySem.W.keepIn K (.ref f0) = true) (F1 : ∃ fd, FunV K "joined" (topS 6) [] [] f1 fd) (g1 : mg "joined" = some (.ref f1)) (k1 : PySem.W.keepIn K (.ref f1) = true) (F2 : ∃ fd, FunV K "reach_needed" (topS 8) [] [] f2 fd) (g2 : mg "reach_needed" = some (.ref f2)) (k2 : PySem.W.keepIn K (.ref f2) = true) (F3 : ∃ fd, FunV K "shorter" (topS 9) [] [] f3 fd) (g3 : mg "shorter" = some (.ref f3)) (k3 : PySem.W.keepIn K (.ref f3) = true) (F4 : ∃ fd, FunV K "tidied" (topS 10) [] [] f4 fd) (g4 : mg "tidied" = some (.ref f4)) (k4 : PySem.W.keepIn K (.ref f4) = true) (F5 : ∃ fd, FunV K "_law_pen" (topS 12) [] [] f5 fd) (g5 : mg "_law_pen" = some (.ref f5)) (k5 : PySem.W.keepIn K (.ref f5) = true) (F6 : ∃ fd, FunV K "_law_pick" (topS 13) [] [] f6 fd) (g6 : mg "_law_pick" = some (.ref f6)) (k6 : PySem.W.keepIn K (.ref f6) = true) (F7 : ∃ fd, FunV K "_law_deeds" (topS 16) [] [] f7 fd) (g7 : mg "_law_deeds" = some (.ref f7)) (k7 : PySem.W.keepIn K (.ref f7) = true) (F8 : ∃ fd, FunV K "_law_nested" (topS 19) [] [] f8 fd) (g8 : mg "_law_nested" = some (.ref f8)) (k8 : PySem.W.keepIn K (.ref f8) = true) (F9 : ∃ fd, FunV K "_law_after" (topS 14) [] [] f9 fd) (g9 : mg "_law_after" = some (.ref f9)) (k9 : PySem.W.keepIn K (.ref f9) = true) (F10 : ∃ fd, FunV K "_law_led" (topS 15) [] [] f10 fd) (g10 : mg "_law_led" = some (.ref f10)) (k10 : PySem.W.keepIn K (.ref f10) = true) (F11 : ∃ fd, FunV K "_law_needs" (topS 17) [] [] f11 fd) (g11 : mg "_law_needs" = some (.ref f11)) (k11 : PySem.W.keepIn K (.ref f11) = true) (F12 : ∃ fd, FunV K "_law_card" (topS 18) [] [] f12 fd) (g12 : mg "_law_card" = some (.ref f12)) (k12 : PySem.W.keepIn K (.ref f12) = true) (F13 : ∃ fd, FunV K "_law_replaced" (topS 20) [] [] f13 fd) (g13 : mg "_law_replaced" = some (.ref f13)) (k13 : PySem.W.keepIn K (.ref f13) = true) (F14 : ∃ fd, FunV K "_law_due" (topS 21) [] [] f14 fd) (g14 : mg "_law_due" = some (.ref f14)) (k14 : PySem.W.keepIn K (.ref f14) = true) (F15 : ∃ fd, FunV K "_law_right" (topS 22) [] [] f15 fd) (g15 : mg "_law_right" = some (.ref f15)) (k15 : PySem.W.keepIn K (.ref f15) = true) (F16 : ∃ fd, FunV K "law" (topS 23) [] [] f16 fd) (g16 : mg "law" = some (.ref f16)) (k16 : PySem.W.keepIn K (.ref f16) = true) : VFn P w K mg base 17 f16 S_law := by
  obtain ⟨d0, F0⟩ := F0
  obtain ⟨d1, F1⟩ := F1
  obtain ⟨d2, F2⟩ := F2
  obtain ⟨d3, F3⟩ := F3
  obtain ⟨d4, F4⟩ := F4
  obtain ⟨d5, F5⟩ := F5
  obtain ⟨d6, F6⟩ := F6
  obtain ⟨d7, F7⟩ := F7
  obtain ⟨d8, F8⟩ := F8
  obtain ⟨d9, F9⟩ := F9
  obtain ⟨d10, F10⟩ := F10
  obtain ⟨d11, F11⟩ := F11
  obtain ⟨d12, F12⟩ := F12
  obtain ⟨d13, F13⟩ := F13
  obtain ⟨d14, F14⟩ := F14
  obtain ⟨d15, F15⟩ := F15
  obtain ⟨d16, F16⟩ := F16
  obtain ⟨u0, c0, v0, r0, p0⟩ := c0
  obtain ⟨u1, c1, v1, r1, p1⟩ := c1
  obtain ⟨u2, c2, v2, r2, p2⟩ := c2
  obtain ⟨u3, c3, v3, r3, p3⟩ := c3
  have o0 : EnvOk P w K mg base 0 Φ0 := ((((EnvOk.nil).glob c0 r0 p0).glob c1 r1 p1).glob c2 r2 p2).glob c3 r3 p3
  have v0 : VFn P w K mg base 1 f0 S_items_of := o0.defV F0 g0 sc_items_of sk_items_of nbs ch_items_of
  have o1 : EnvOk P w K mg base 1 Φ1 := o0.add g0 k0 v0
  have v1 : VFn P w K mg base 2 f1 S_joined := o1.defV F1 g1 sc_joined sk_joined nbs ch_joined
  have o2 : EnvOk P w K mg base 2 Φ2 := o1.add g1 k1 v1
  have v2 : VFn P w K mg base 3 f2 S_reach_needed := o2.defS F2 g2 sc_reach_needed sk_reach_needed nbs ch_reach_needed
  have o3 : EnvOk P w K mg base 3 Φ3 := o2.add g2 k2 v2
  have v3 : VFn P w K mg base 4 f3 S_shorter := o3.defV F3 g3 sc_shorter sk_shorter nbs ch_shorter
  have o4 : EnvOk P w K mg base 4 Φ4 := o3.add g3 k3 v3
  have v4 : VFn P w K mg base 5 f4 S_tidied := o4.defS F4 g4 sc_tidied sk_tidied nbs ch_tidied
  have o5 : EnvOk P w K mg base 5 Φ5 := o4.add g4 k4 v4
  have v5 : VFn P w K mg base 6 f5 S__law_pen := o5.defV F5 g5 sc__law_pen sk__law_pen nbs ch__law_pen
  have o6 : EnvOk P w K mg base 6 Φ6 := o5.add g5 k5 v5
  have v6 : VFn P w K mg base 7 f6 S__law_pick := o6.defV F6 g6 sc__law_pick sk__law_pick nbs ch__law_pick
  have o7 : EnvOk P w K mg base 7 Φ7 := o6.add g6 k6 v6
  have v7 : VFn P w K mg base 8 f7 S__law_deeds := o7.defV F7 g7 sc__law_deeds sk__law_deeds nbs ch__law_deeds
  have o8 : EnvOk P w K mg base 8 Φ8 := o7.add g7 k7 v7
  have v8 : VFn P w K mg base 9 f8 S__law_nested := o8.defV F8 g8 sc__law_nested sk__law_nested nbs ch__law_nested
  have o9 : EnvOk P w K mg base 9 Φ9 := o8.add g8 k8 v8
  have v9 : VFn P w K mg base 10 f9 S__law_after := o9.defV F9 g9 sc__law_after sk__law_after nbs ch__law_after
  have o10 : EnvOk P w K mg base 10 Φ10 := o9.add g9 k9 v9
  have v10 : VFn P w K mg base 11 f10 S__law_led := o10.defV F10 g10 sc__law_led sk__law_led nbs ch__law_led
  have o11 : EnvOk P w K mg base 11 Φ11 := o10.add g10 k10 v10
  have v11 : VFn P w K mg base 12 f11 S__law_needs := o11.defV F11 g11 sc__law_needs sk__law_needs nbs ch__law_needs
  have o12 : EnvOk P w K mg base 12 Φ12 := o11.add g11 k11 v11
  have v12 : VFn P w K mg base 13 f12 S__law_card := o12.defV F12 g12 sc__law_card sk__law_card nbs ch__law_card
  have o13 : EnvOk P w K mg base 13 Φ13 := o12.add g12 k12 v12
  have v13 : VFn P w K mg base 14 f13 S__law_replaced := o13.defV F13 g13 sc__law_replaced sk__law_replaced nbs ch__law_replaced
  have o14 : EnvOk P w K mg base 14 Φ14 := o13.add g13 k13 v13
  have v14 : VFn P w K mg base 15 f14 S__law_due := o14.defV F14 g14 sc__law_due sk__law_due nbs ch__law_due
  have o15 : EnvOk P w K mg base 15 Φ15 := o14.add g14 k14 v14
  have v15 : VFn P w K mg base 16 f15 S__law_right := o15.defV F15 g15 sc__law_right sk__law_right nbs ch__law_right
  have o16 : EnvOk P w K mg base 16 Φ16 := o15.add g15 k15 v15
  have v16 : VFn P w K mg base 17 f16 S_law := o16.defV F16 g16 sc_law sk_law nbs ch_law
  exact v16
end
theorem all_mk {P : Program} {w : World} {K : Frg} {h : Heap} {mg : Str → Option Value} {fa : Addr} (X : K.In h) (G : h.Ns mainGlobals mg) (hfa : mg "law" = some (.ref fa))
    {f0 f1 f2 f3 f4 f5 f6 f7 f8 f9 f10 f11 f12 f13 f14 f15 f16 : Addr} {od0 an0 od1 an1 od2 an2 od3 an3 od4 an4 od5 an5 od6 an6 od7 an7 od8 an8 od9 an9 od10 an10 od11 an11 od12 an12 od13 an13 od14 an14 od15 an15 od16 an16 : Option Addr} {sl0 sl1 sl2 sl3 sl4 sl5 sl6 sl7 sl8 sl9 sl10 sl11 sl12 sl13 sl14 sl15 sl16 : Array (Option Value)} {oc0 dc0 pm0 cd0 ct0 kV0 oc1 dc1 pm1 cd1 ct1 kV1 oc2 dc2 pm2 cd2 ct2 kV2 oc3 dc3 pm3 cd3 ct3 kV3 oc4 dc4 pm4 cd4 ct4 kV4 oc5 dc5 pm5 cd5 ct5 kV5 oc6 dc6 pm6 cd6 ct6 kV6 oc7 dc7 pm7 cd7 ct7 kV7 oc8 dc8 pm8 cd8 ct8 kV8 oc9 dc9 pm9 cd9 ct9 kV9 oc10 dc10 pm10 cd10 ct10 kV10 oc11 dc11 pm11 cd11 ct11 kV11 oc12 dc12 pm12 cd12 ct12 kV12 oc13 dc13 pm13 cd13 ct13 kV13 oc14 dc14 pm14 cd14 ct14 kV14 oc15 dc15 pm15 cd15 ct15 kV15 oc16 dc16 pm16 cd16 ct16 kV16 : Value} {y1 y2 y3 y4 : Tok}
    (a0 : PySem.W.nsIn K mainGlobals "items_of" = some (some (.ref f0)))
    (l0 : K.lookup f0 = some ⟨oc0, od0, .func (PySem.W.fnOf "items_of" "items_of" (defArgs (topS 5)) (defBody (topS 5)) (defScope (topS 5)) .none kV0 dc0 pm0 an0 cd0 ct0), sl0⟩)
    (e0 : PySem.W.codeIn K cd0 "items_of" = true)
    (k0 : PySem.W.keepIn K (.ref f0) = true)
    (a1 : PySem.W.nsIn K mainGlobals "joined" = some (some (.ref f1)))
    (l1 : K.lookup f1 = some ⟨oc1, od1, .func (PySem.W.fnOf "joined" "joined" (defArgs (topS 6)) (defBody (topS 6)) (defScope (topS 6)) .none kV1 dc1 pm1 an1 cd1 ct1), sl1⟩)
    (e1 : PySem.W.codeIn K cd1 "joined" = true)
    (k1 : PySem.W.keepIn K (.ref f1) = true)
    (a2 : PySem.W.nsIn K mainGlobals "reach_needed" = some (some (.ref f2)))
    (l2 : K.lookup f2 = some ⟨oc2, od2, .func (PySem.W.fnOf "reach_needed" "reach_needed" (defArgs (topS 8)) (defBody (topS 8)) (defScope (topS 8)) .none kV2 dc2 pm2 an2 cd2 ct2), sl2⟩)
    (e2 : PySem.W.codeIn K cd2 "reach_needed" = true)
    (k2 : PySem.W.keepIn K (.ref f2) = true)
    (a3 : PySem.W.nsIn K mainGlobals "shorter" = some (some (.ref f3)))
    (l3 : K.lookup f3 = some ⟨oc3, od3, .func (PySem.W.fnOf "shorter" "shorter" (defArgs (topS 9)) (defBody (topS 9)) (defScope (topS 9)) .none kV3 dc3 pm3 an3 cd3 ct3), sl3⟩)
    (e3 : PySem.W.codeIn K cd3 "shorter" = true)
    (k3 : PySem.W.keepIn K (.ref f3) = true)
    (a4 : PySem.W.nsIn K mainGlobals "tidied" = some (some (.ref f4)))
    (l4 : K.lookup f4 = some ⟨oc4, od4, .func (PySem.W.fnOf "tidied" "tidied" (defArgs (topS 10)) (defBody (topS 10)) (defScope (topS 10)) .none kV4 dc4 pm4 an4 cd4 ct4), sl4⟩)
    (e4 : PySem.W.codeIn K cd4 "tidied" = true)
    (k4 : PySem.W.keepIn K (.ref f4) = true)
    (a5 : PySem.W.nsIn K mainGlobals "_law_pen" = some (some (.ref f5)))
    (l5 : K.lookup f5 = some ⟨oc5, od5, .func (PySem.W.fnOf "_law_pen" "_law_pen" (defArgs (topS 12)) (defBody (topS 12)) (defScope (topS 12)) .none kV5 dc5 pm5 an5 cd5 ct5), sl5⟩)
    (e5 : PySem.W.codeIn K cd5 "_law_pen" = true)
    (k5 : PySem.W.keepIn K (.ref f5) = true)
    (a6 : PySem.W.nsIn K mainGlobals "_law_pick" = some (some (.ref f6)))
    (l6 : K.lookup f6 = some ⟨oc6, od6, .func (PySem.W.fnOf "_law_pick" "_law_pick" (defArgs (topS 13)) (defBody (topS 13)) (defScope (topS 13)) .none kV6 dc6 pm6 an6 cd6 ct6), sl6⟩)
    (e6 : PySem.W.codeIn K cd6 "_law_pick" = true)
    (k6 : PySem.W.keepIn K (.ref f6) = true)
    (a7 : PySem.W.nsIn K mainGlobals "_law_deeds" = some (some (.ref f7)))
    (l7 : K.lookup f7 = some ⟨oc7, od7, .func (PySem.W.fnOf "_law_deeds" "_law_deeds" (defArgs (topS 16)) (defBody (topS 16)) (defScope (topS 16)) .none kV7 dc7 pm7 an7 cd7 ct7), sl7⟩)
    (e7 : PySem.W.codeIn K cd7 "_law_deeds" = true)
    (k7 : PySem.W.keepIn K (.ref f7) = true)
    (a8 : PySem.W.nsIn K mainGlobals "_law_nested" = some (some (.ref f8)))
    (l8 : K.lookup f8 = some ⟨oc8, od8, .func (PySem.W.fnOf "_law_nested" "_law_nested" (defArgs (topS 19)) (defBody (topS 19)) (defScope (topS 19)) .none kV8 dc8 pm8 an8 cd8 ct8), sl8⟩)
    (e8 : PySem.W.codeIn K cd8 "_law_nested" = true)
    (k8 : PySem.W.keepIn K (.ref f8) = true)
    (a9 : PySem.W.nsIn K mainGlobals "_law_after" = some (some (.ref f9)))
    (l9 : K.lookup f9 = some ⟨oc9, od9, .func (PySem.W.fnOf "_law_after" "_law_after" (defArgs (topS 14)) (defBody (topS 14)) (defScope (topS 14)) .none kV9 dc9 pm9 an9 cd9 ct9), sl9⟩)
    (e9 : PySem.W.codeIn K cd9 "_law_after" = true)
    (k9 : PySem.W.keepIn K (.ref f9) = true)
    (a10 : PySem.W.nsIn K mainGlobals "_law_led" = some (some (.ref f10)))
    (l10 : K.lookup f10 = some ⟨oc10, od10, .func (PySem.W.fnOf "_law_led" "_law_led" (defArgs (topS 15)) (defBody (topS 15)) (defScope (topS 15)) .none kV10 dc10 pm10 an10 cd10 ct10), sl10⟩)
    (e10 : PySem.W.codeIn K cd10 "_law_led" = true)
    (k10 : PySem.W.keepIn K (.ref f10) = true)
    (a11 : PySem.W.nsIn K mainGlobals "_law_needs" = some (some (.ref f11)))
    (l11 : K.lookup f11 = some ⟨oc11, od11, .func (PySem.W.fnOf "_law_needs" "_law_needs" (defArgs (topS 17)) (defBody (topS 17)) (defScope (topS 17)) .none kV11 dc11 pm11 an11 cd11 ct11), sl11⟩)
    (e11 : PySem.W.codeIn K cd11 "_law_needs" = true)
    (k11 : PySem.W.keepIn K (.ref f11) = true)
    (a12 : PySem.W.nsIn K mainGlobals "_law_card" = some (some (.ref f12)))
    (l12 : K.lookup f12 = some ⟨oc12, od12, .func (PySem.W.fnOf "_law_card" "_law_card" (defArgs (topS 18)) (defBody (topS 18)) (defScope (topS 18)) .none kV12 dc12 pm12 an12 cd12 ct12), sl12⟩)
    (e12 : PySem.W.codeIn K cd12 "_law_card" = true)
    (k12 : PySem.W.keepIn K (.ref f12) = true)
    (a13 : PySem.W.nsIn K mainGlobals "_law_replaced" = some (some (.ref f13)))
    (l13 : K.lookup f13 = some ⟨oc13, od13, .func (PySem.W.fnOf "_law_replaced" "_law_replaced" (defArgs (topS 20)) (defBody (topS 20)) (defScope (topS 20)) .none kV13 dc13 pm13 an13 cd13 ct13), sl13⟩)
    (e13 : PySem.W.codeIn K cd13 "_law_replaced" = true)
    (k13 : PySem.W.keepIn K (.ref f13) = true)
    (a14 : PySem.W.nsIn K mainGlobals "_law_due" = some (some (.ref f14)))
    (l14 : K.lookup f14 = some ⟨oc14, od14, .func (PySem.W.fnOf "_law_due" "_law_due" (defArgs (topS 21)) (defBody (topS 21)) (defScope (topS 21)) .none kV14 dc14 pm14 an14 cd14 ct14), sl14⟩)
    (e14 : PySem.W.codeIn K cd14 "_law_due" = true)
    (k14 : PySem.W.keepIn K (.ref f14) = true)
    (a15 : PySem.W.nsIn K mainGlobals "_law_right" = some (some (.ref f15)))
    (l15 : K.lookup f15 = some ⟨oc15, od15, .func (PySem.W.fnOf "_law_right" "_law_right" (defArgs (topS 22)) (defBody (topS 22)) (defScope (topS 22)) .none kV15 dc15 pm15 an15 cd15 ct15), sl15⟩)
    (e15 : PySem.W.codeIn K cd15 "_law_right" = true)
    (k15 : PySem.W.keepIn K (.ref f15) = true)
    (a16 : PySem.W.nsIn K mainGlobals "law" = some (some (.ref f16)))
    (l16 : K.lookup f16 = some ⟨oc16, od16, .func (PySem.W.fnOf "law" "law" (defArgs (topS 23)) (defBody (topS 23)) (defScope (topS 23)) .none kV16 dc16 pm16 an16 cd16 ct16), sl16⟩)
    (e16 : PySem.W.codeIn K cd16 "law" = true)
    (k16 : PySem.W.keepIn K (.ref f16) = true)
    (c0 : PySem.W.nsIn K mainGlobals "DUP" = some (some (.str "dup" y1)))
    (c1 : PySem.W.nsIn K mainGlobals "LEAST_REACH" = some (some (.int (2) y2)))
    (c2 : PySem.W.nsIn K mainGlobals "POP" = some (some (.str "pop" y3)))
    (c3 : PySem.W.nsIn K mainGlobals "SWAP" = some (some (.str "swap" y4)))
    (z0 : PySem.W.nsIn K mainGlobals "abs" = some none)
    (z1 : PySem.W.nsIn K mainGlobals "all" = some none)
    (z2 : PySem.W.nsIn K mainGlobals "int" = some none)
    (z3 : PySem.W.nsIn K mainGlobals "isinstance" = some none)
    (z4 : PySem.W.nsIn K mainGlobals "len" = some none)
    (z5 : PySem.W.nsIn K mainGlobals "list" = some none)
    (z6 : PySem.W.nsIn K mainGlobals "max" = some none)
    (z7 : PySem.W.nsIn K mainGlobals "range" = some none)
    (z8 : PySem.W.nsIn K mainGlobals "repr" = some none)
    (z9 : PySem.W.nsIn K mainGlobals "tuple" = some none) :
    ∀ base : Heap, K.In base → base.Ns mainGlobals mg → VFn P w K mg base 17 fa S_law := by
  have e := hfa.symm.trans (PySem.W.mg_of X G a16)
  cases e
  intro base _ _
  refine table (fun y hy => ?_) ⟨_, PySem.W.mg_of X G c0, ⟨(.str "dup"), ⟨y1, rfl⟩, fun _ => (.str _)⟩⟩ ⟨_, PySem.W.mg_of X G c1, ⟨(.int (2)), ⟨y2, rfl⟩, fun _ => (.int _)⟩⟩ ⟨_, PySem.W.mg_of X G c2, ⟨(.str "pop"), ⟨y3, rfl⟩, fun _ => (.str _)⟩⟩ ⟨_, PySem.W.mg_of X G c3, ⟨(.str "swap"), ⟨y4, rfl⟩, fun _ => (.str _)⟩⟩  (funV_mk l0 e0 (.inl ⟨rfl, rfl⟩) (.inl rfl)) (PySem.W.mg_of X G a0) k0 (funV_mk l1 e1 (.inl ⟨rfl, rfl⟩) (.inl rfl)) (PySem.W.mg_of X G a1) k1 (funV_mk l2 e2 (.inl ⟨rfl, rfl⟩) (.inl rfl)) (PySem.W.mg_of X G a2) k2 (funV_mk l3 e3 (.inl ⟨rfl, rfl⟩) (.inl rfl)) (PySem.W.mg_of X G a3) k3 (funV_mk l4 e4 (.inl ⟨rfl, rfl⟩) (.inl rfl)) (PySem.W.mg_of X G a4) k4 (funV_mk l5 e5 (.inl ⟨rfl, rfl⟩) (.inl rfl)) (PySem.W.mg_of X G a5) k5 (funV_mk l6 e6 (.inl ⟨rfl, rfl⟩) (.inl rfl)) (PySem.W.mg_of X G a6) k6 (funV_mk l7 e7 (.inl ⟨rfl, rfl⟩) (.inl rfl)) (PySem.W.mg_of X G a7) k7 (funV_mk l8 e8 (.inl ⟨rfl, rfl⟩) (.inl rfl)) (PySem.W.mg_of X G a8) k8 (funV_mk l9 e9 (.inl ⟨rfl, rfl⟩) (.inl rfl)) (PySem.W.mg_of X G a9) k9 (funV_mk l10 e10 (.inl ⟨rfl, rfl⟩) (.inl rfl)) (PySem.W.mg_of X G a10) k10 (funV_mk l11 e11 (.inl ⟨rfl, rfl⟩) (.inl rfl)) (PySem.W.mg_of X G a11) k11 (funV_mk l12 e12 (.inl ⟨rfl, rfl⟩) (.inl rfl)) (PySem.W.mg_of X G a12) k12 (funV_mk l13 e13 (.inl ⟨rfl, rfl⟩) (.inl rfl)) (PySem.W.mg_of X G a13) k13 (funV_mk l14 e14 (.inl ⟨rfl, rfl⟩) (.inl rfl)) (PySem.W.mg_of X G a14) k14 (funV_mk l15 e15 (.inl ⟨rfl, rfl⟩) (.inl rfl)) (PySem.W.mg_of X G a15) k15 (funV_mk l16 e16 (.inl ⟨rfl, rfl⟩) (.inl rfl)) (PySem.W.mg_of X G a16) k16
  unfold nb at hy
  simp only [List.mem_cons, List.not_mem_nil, or_false] at hy
  rcases hy with rfl | rfl | rfl | rfl | rfl | rfl | rfl | rfl | rfl | rfl
  · exact PySem.W.mg_none_of X G z0
  · exact PySem.W.mg_none_of X G z1
  · exact PySem.W.mg_none_of X G z2
  · exact PySem.W.mg_none_of X G z3
  · exact PySem.W.mg_none_of X G z4
  · exact PySem.W.mg_none_of X G z5
  · exact PySem.W.mg_none_of X G z6
  · exact PySem.W.mg_none_of X G z7
  · exact PySem.W.mg_none_of X G z8
  · exact PySem.W.mg_none_of X G z9
end PV.T
set_option Elab.async false
set_option linter.all false
set_option autoImplicit false
set_option maxRecDepth 100000
set_option maxHeartbeats 1000000
namespace PV
open PySem PySem.Spec PyProof.Rows L2
mutual
/-- no truth value, no dict within -/
def plB : D → Bool
  | .none => true
  | .bool _ => false
  | .int _ => true
  | .str _ => true
  | .list xs => plBs xs
  | .tuple xs => plBs xs
  | .dict _ => false
def plBs : List D → Bool
  | [] => true
  | x :: xs => plB x && plBs xs
end
theorem plBs_all : ∀ {xs : List D}, plBs xs = true ↔ ∀ x ∈ xs, plB x = true
  | [] => by simp [plBs]
  | x :: xs => by simp [plBs, plBs_all (xs := xs)]
mutual
theorem eqv_pl : ∀ {a b : D}, plB a = true → plB b = true → (PyData.eqv a b = true ↔ a = b)
  | .none, b, _, hb => by cases b <;> simp [PyData.eqv]
  | .int i, b, _, hb => by cases b <;> simp [PyData.eqv]; cases hb
  | .str i, b, _, hb => by cases b <;> simp [PyData.eqv]
  | .list xs, b, ha, hb => by
    cases b <;> simp [PyData.eqv]
    exact eqvs_pl (by simpa [plB] using ha) (by simpa [plB] using hb)
  | .tuple xs, b, ha, hb => by
    cases b <;> simp [PyData.eqv]
    exact eqvs_pl (by simpa [plB] using ha) (by simpa [plB] using hb)
  | .bool _, _, ha, _ => by cases ha
  | .dict _, _, ha, _ => by cases ha
theorem eqvs_pl : ∀ {a b : List D}, plBs a = true → plBs b = true → (PyData.eqvAll a b = true ↔ a = b)
  | [], [], _, _ => by simp [PyData.eqvAll]
  | [], _ :: _, _, _ => by simp [PyData.eqvAll]
  | _ :: _, [], _, _ => by simp [PyData.eqvAll]
  | x :: xs, y :: ys, ha, hb => by
    simp only [plBs, Bool.and_eq_true] at ha hb
    simp only [PyData.eqvAll, Bool.and_eq_true, List.cons.injEq]
    rw [eqv_pl ha.1 hb.1, eqvs_pl ha.2 hb.2]
end
/-- fit to be compared -/
structure Fit (d : D) : Prop where
  pl : plB d = true
  lay : d.canLay0 = true
  dep : d.depth ≤ 64
open Classical in
theorem eqv_fit {a b : D} (ha : Fit a) (hb : Fit b) : PyData.eqv a b = decide (a = b) := by
  have e := eqv_pl ha.pl hb.pl
  cases q : PyData.eqv a b with
  | true => exact (decide_eq_true (e.mp q)).symm
  | false => exact (decide_eq_false fun z => by rw [e.mpr z] at q; cases q).symm
section
variable {Z : Exn → List Slot → Prop} {ρ : List Slot} {T : Bool → List Slot → Prop}
open Classical in
theorem eq_fit {a b : D} (ha : Fit a) (hb : Fit b) : wpM Z (lift (cmpV .eq a b)) ρ T ↔ T (decide (a = b)) ρ := by
  rw [cmp_eq, shaped_of ha.lay ha.dep, shaped_of hb.lay hb.dep, eqv_fit ha hb]
  simp
open Classical in
theorem ne_fit {a b : D} (ha : Fit a) (hb : Fit b) : wpM Z (lift (cmpV .ne a b)) ρ T ↔ T (!decide (a = b)) ρ := by
  rw [cmp_ne, shaped_of ha.lay ha.dep, shaped_of hb.lay hb.dep, eqv_fit ha hb]
  simp
end
open Classical in
theorem cmp_fit {a b : D} (ha : Fit a) (hb : Fit b) : cmpV .eq a b = some (decide (a = b)) := by
  rw [cmp_eq, shaped_of ha.lay ha.dep, shaped_of hb.lay hb.dep, eqv_fit ha hb]
  simp
open Classical in
theorem cmp_fitN {a b : D} (ha : Fit a) (hb : Fit b) : cmpV .ne a b = some (!decide (a = b)) := by
  rw [cmp_ne, shaped_of ha.lay ha.dep, shaped_of hb.lay hb.dep, eqv_fit ha hb]
  simp
theorem Fit.int {i : Int} : Fit (.int i) := ⟨rfl, rfl, by simp [PyData.depth]⟩
theorem Fit.none : Fit .none := ⟨rfl, rfl, by simp [PyData.depth]⟩
theorem fit_all : ∀ {xs : List D} {k : Nat}, (∀ x ∈ xs, plB x = true ∧ x.canLay0 = true ∧ x.depth ≤ k) → plBs xs = true ∧ PyData.canLayAll0 xs = true ∧ PyData.depthAll xs ≤ k
  | [], k, _ => ⟨rfl, rfl, by simp [PyData.depthAll]⟩
  | x :: xs, k, h => by
    obtain ⟨h1, h2, h3⟩ := h x (.head _)
    obtain ⟨h4, h5, h6⟩ := fit_all (xs := xs) (k := k) fun y hy => h y (.tail _ hy)
    exact ⟨by simp [plBs, h1, h4], by rw [lay_cons, h2, h5]; rfl, by simp only [PyData.depthAll]; omega⟩
/-- of depth k at most -/
structure FitK (k : Nat) (d : D) : Prop where
  pl : plB d = true
  lay : d.canLay0 = true
  dep : d.depth ≤ k
theorem FitK.fit {k : Nat} {d : D} (h : FitK k d) (hk : k ≤ 64) : Fit d := ⟨h.pl, h.lay, Nat.le_trans h.dep hk⟩
theorem FitK.mono {k k' : Nat} {d : D} (h : FitK k d) (hk : k ≤ k') : FitK k' d := ⟨h.pl, h.lay, Nat.le_trans h.dep hk⟩
theorem FitK.i {k : Nat} {i : Int} : FitK k (.int i) := ⟨rfl, rfl, by simp [PyData.depth]⟩
theorem FitK.n {k : Nat} : FitK k .none := ⟨rfl, rfl, by simp [PyData.depth]⟩
theorem FitK.s {k : Nat} {x : Str} (h : PyData.canLay0 (.str x) = true) : FitK k (.str x) := ⟨rfl, h, by simp [PyData.depth]⟩
theorem FitK.tup {k : Nat} {xs : List D} (h : ∀ x ∈ xs, FitK k x) : FitK (k + 1) (.tuple xs) := by
  obtain ⟨h1, h2, h3⟩ := fit_all (k := k) fun x hx => ⟨(h x hx).pl, (h x hx).lay, (h x hx).dep⟩
  exact ⟨by simpa [plB] using h1, by rw [lay_tup]; exact h2, by simp only [PyData.depth]; omega⟩
theorem FitK.lst {k : Nat} {xs : List D} (h : ∀ x ∈ xs, FitK k x) : FitK (k + 1) (.list xs) := by
  obtain ⟨h1, h2, h3⟩ := fit_all (k := k) fun x hx => ⟨(h x hx).pl, (h x hx).lay, (h x hx).dep⟩
  exact ⟨by simpa [plB] using h1, by rw [lay_lst]; exact h2, by simp only [PyData.depth]; omega⟩
end PV
set_option Elab.async false
set_option linter.all false
set_option autoImplicit false
set_option maxRecDepth 100000
set_option maxHeartbeats 1000000
namespace PV
open PySem PySem.Spec PyProof.Rows L2
section
variable {Z : Exn → List Slot → Prop} {Φ : Env'} {ρ : List Slot} {Q : Rv → List Slot → Prop}
/-- a comprehension whose turns reckon a function of the item; P: the slots in the turn -/
theorem lc_gen {own : List (Str × Nat)} {elt : Ex} {tg : Tg} {it : Itr'} {tt : Tes} (xs : List D) (P : D → List Slot) (p : D → Bool) (f : D → D)
    (hit : wpM Z (evI Φ it) ρ fun w ρ1 => w.items = xs ∧ ρ1 = ρ ∧ lkOut w.lock (own.map (·.2)) = true ∧ lockOk (wipeS ρ (own.map (·.2))) w.lock = true)
    (h0 : ownFree ρ (own.map (·.2)) = true) (hput : ∀ d ∈ xs, putT tg d (wipeS ρ (own.map (·.2))) = .ok () (P d)) (hw : ∀ d ∈ xs, wipeS (P d) (own.map (·.2)) = wipeS ρ (own.map (·.2))) (hb : backS ρ (wipeS ρ (own.map (·.2))) (own.map (·.2)) = ρ)
    (htest : ∀ d ∈ xs, ∀ R : Bool → List Slot → Prop, R (p d) (P d) → wpM noX (evAnd Φ tt) (P d) R)
    (helt : ∀ d ∈ xs, p d = true → ∀ R : D → List Slot → Prop, R (f d) (P d) → wpM noX (evE Φ elt) (P d) fun r ρ' => wpM noX (frz r) ρ' R)
    (hl : xs.length ≤ 16777216) (h : Q (.fr (.lst ((xs.filter p).map f))) ρ) : wpM Z (evE Φ (.lc own elt tg it tt)) ρ Q := by
  refine lc_inv (hit.mono fun w ρ1 ⟨e0, e1, h2, h3⟩ => ?_)
  subst e1
  refine ⟨h0, h2, fun k acc ρ2 => acc = ((xs.take k).filter p).map f ∧ ρ2 = wipeS ρ1 (own.map (·.2)), ⟨rfl, rfl⟩, fun k acc ρ2 _ ⟨_, e⟩ => by rw [e]; exact h3, ?_, ?_⟩
  · rintro k d acc ρ2 hd ⟨ea, e⟩
    subst ea e
    rw [e0] at hd
    obtain ⟨hk, ed⟩ := List.getElem?_eq_some_iff.mp hd
    have hm : d ∈ xs := ed ▸ List.getElem_mem hk
    have et : xs.take (k + 1) = xs.take k ++ [d] := by rw [List.take_succ_eq_append_getElem hk, ed]
    refine (wp_ok0 (hput d hm)).mpr ?_
    refine htest d hm _ ⟨fun c => ?_, fun c => ?_⟩
    · refine helt d hm c _ ⟨?_, ?_, hw d hm⟩
      · rw [List.length_map]
        have := List.length_filter_le p (xs.take k)
        rw [List.length_take] at this
        rw [sizeLine_eq]
        omega
      · rw [et, List.filter_append, List.map_append]
        simp [c]
    · refine ⟨?_, hw d hm⟩
      rw [et, List.filter_append, List.map_append]
      simp [c]
  · rintro acc ρ2 ⟨ea, e⟩
    subst ea e
    rw [hb, e0, List.take_length]
    exact h
end
end PV
set_option Elab.async false
set_option linter.all false
set_option autoImplicit false
set_option maxRecDepth 100000
set_option maxHeartbeats 1000000
namespace PV.T
open PySem PySem.Spec PyProof.Rows L2 PV
/-- an instruction -/
inductive Ins where
  | pop
  | dup (n : Nat)
  | swap (n : Nat)
  deriving DecidableEq
def Ins.d : Ins → D
  | .pop => .tuple [.str "pop"]
  | .dup n => .tuple [.str "dup", .int (n : Int)]
  | .swap n => .tuple [.str "swap", .int (n : Int)]
/-- its number is within bounds -/
def Ins.ok (m : Nat) : Ins → Prop
  | .pop => True
  | .dup n => 1 ≤ n ∧ n ≤ m
  | .swap n => 1 ≤ n ∧ n ≤ m
def tp (l : List Ins) : List D := l.map Ins.d
def nd : Ins → Nat
  | .pop => 1
  | .dup n => n
  | .swap n => n + 1
def ch : Ins → Int
  | .pop => -1
  | .dup _ => 1
  | .swap _ => 0
def app (c : List D) : Ins → List D
  | .pop => c.dropLast
  | .dup n => c ++ [c.getD (c.length - n) .none]
  | .swap n => c.take (c.length - 1 - n) ++ [c.getD (c.length - 1) .none] ++ (c.drop (c.length - n)).dropLast ++ [c.getD (c.length - 1 - n) .none]
def aft (c : List D) (i : Ins) : Option (List D) := if nd i ≤ c.length then some (app c i) else none
def led : Option (List D) → List Ins → Option (List D)
  | o, [] => o
  | o, i :: l => led (o.bind fun c => aft c i) l
def oT : Option (List D) → D
  | none => .none
  | some c => .tuple c
theorem app_dup {c : List D} {n : Nat} : app c (.dup n) = c ++ [c.getD (c.length - n) .none] := rfl
theorem app_swap {c : List D} {n : Nat} : app c (.swap n) = c.take (c.length - 1 - n) ++ [c.getD (c.length - 1) .none] ++ (c.drop (c.length - n)).dropLast ++ [c.getD (c.length - 1 - n) .none] := rfl
theorem Ins.ok.mono {m m' : Nat} {i : Ins} (h : i.ok m) (hm : m ≤ m') : i.ok m' := by
  cases i with
  | pop => trivial
  | dup n => exact ⟨h.1, Nat.le_trans h.2 hm⟩
  | swap n => exact ⟨h.1, Nat.le_trans h.2 hm⟩
theorem nd_pos {i : Ins} {m : Nat} (h : i.ok m) : 1 ≤ nd i := by
  cases i with
  | pop => exact Nat.le_refl _
  | dup n => exact h.1
  | swap n => exact Nat.succ_le_succ (Nat.zero_le _)
theorem app_len {c : List D} {i : Ins} {m : Nat} (h : nd i ≤ c.length) (ho : i.ok m) : ((app c i).length : Int) = c.length + ch i := by
  cases i with
  | pop =>
    have h : 1 ≤ c.length := h
    simp only [app, ch, List.length_dropLast]
    omega
  | dup n => simp [app, ch]
  | swap n =>
    have h : n + 1 ≤ c.length := h
    have h1 : 1 ≤ n := ho.1
    simp only [app, ch, List.length_append, List.length_take, List.length_cons, List.length_nil, List.length_dropLast, List.length_drop]
    omega
theorem led_none : ∀ l : List Ins, led none l = none
  | [] => rfl
  | _ :: l => led_none l
theorem led_append : ∀ (l l' : List Ins) (o : Option (List D)), led o (l ++ l') = led (led o l) l'
  | [], _, _ => rfl
  | i :: l, l', o => led_append l l' _
/-- cuts at the end -/
theorem cut_last {α : Type} {xs : List α} : cutD xs none (some (-1)) = xs.dropLast := by
  have e : HT.sIx xs.length xs.length (some (-1)) = xs.length - 1 := by
    show ((-1 : Int) + (xs.length : Int)).toNat = _
    omega
  unfold cutD
  rw [e, HT.sIx_none]
  simp [List.dropLast_eq_take]
theorem cut_lasts {α : Type} {xs : List α} (h : xs ≠ []) : cutD xs (some (-1)) none = [xs.getLast h] := by
  have e : HT.sIx xs.length 0 (some (-1)) = xs.length - 1 := by
    show ((-1 : Int) + (xs.length : Int)).toNat = _
    omega
  have l : 0 < xs.length := List.length_pos_iff.mpr h
  unfold cutD
  rw [e, HT.sIx_none, List.take_of_length_le (by rw [List.length_drop]; omega), show xs.drop (xs.length - 1) = [xs.getLast h] from by rw [List.drop_eq_getElem_cons (by omega), List.drop_eq_nil_of_le (by omega), List.getLast_eq_getElem]]
theorem cut_mid {α : Type} {xs : List α} {n : Nat} : cutD xs (some (n : Int)) (some (-1)) = (xs.drop n).dropLast := by
  have e : HT.sIx xs.length xs.length (some (-1)) = xs.length - 1 := by
    show ((-1 : Int) + (xs.length : Int)).toNat = _
    omega
  unfold cutD
  rw [e, HT.sIx_nat, List.dropLast_eq_take, List.length_drop]
  by_cases h : n ≤ xs.length
  · rw [Nat.min_eq_left h]
    congr 1
    omega
  · rw [Nat.min_eq_right (by omega), List.drop_eq_nil_of_le (Nat.le_refl _), List.drop_eq_nil_of_le (by omega)]
    simp
theorem cut_one {α : Type} {xs : List α} {n : Nat} (h : n < xs.length) : cutD xs (some (n : Int)) (some ((n : Int) + 1)) = [xs[n]] := by
  have e : ((n : Int) + 1) = ((n + 1 : Nat) : Int) := by omega
  unfold cutD
  rw [e, HT.sIx_nat, HT.sIx_nat, Nat.min_eq_left (by omega), Nat.min_eq_left (by omega), List.drop_eq_getElem_cons h, show n + 1 - n = 1 from by omega]
  rfl
theorem at_last {α : Type} {xs : List α} (h : xs ≠ []) : atI xs (-1) = some (xs.getLast h) := by
  have l : 0 < xs.length := List.length_pos_iff.mpr h
  rw [List.getLast_eq_getElem]
  unfold atI ixN
  have e : ((-1 : Int) + (xs.length : Int)).toNat = xs.length - 1 := by omega
  simp [e]
  rw [if_pos (by omega)]
  simp [List.getElem?_eq_getElem (show xs.length - 1 < xs.length by omega)]
theorem at_neg {α : Type} {xs : List α} {n : Nat} (h : 1 ≤ n) (h2 : n ≤ xs.length) : atI xs (-(n : Int)) = some (xs[xs.length - n]'(by omega)) := by
  unfold atI ixN
  have e : (-(n : Int) + (xs.length : Int)).toNat = xs.length - n := by omega
  simp [e]
  rw [if_neg (by omega), if_pos (by omega)]
  simp [List.getElem?_eq_getElem (show xs.length - n < xs.length by omega)]
@[simp] theorem ne_nilT {l : List D} : cmpV .ne (.tuple l) (.tuple []) = some (!l.isEmpty) := by
  have hz : neD (.tuple l) (.tuple []) = true := by simp [neD, eqD, eqOk, isSq, PyData.depth, PyData.depthAll]
  have e : PyData.eqv (.tuple l) (.tuple []) = l.isEmpty := by cases l <;> rfl
  rw [cmp_ne, hz, Bool.or_true, e, if_pos rfl]
@[simp] theorem eq_nilT {l : List D} : cmpV .eq (.tuple l) (.tuple []) = some l.isEmpty := by
  have hz : eqD (.tuple l) (.tuple []) = true := by simp [eqD, eqOk, isSq, PyData.depth, PyData.depthAll]
  have e : PyData.eqv (.tuple l) (.tuple []) = l.isEmpty := by cases l <;> rfl
  rw [cmp_eq, hz, Bool.or_true, e, if_pos rfl]
@[simp] theorem at0 {x : D} {xs : List D} : atI (x :: xs) 0 = some x := at_get (k := 0) rfl (by simp)
@[simp] theorem at1 {x y : D} {xs : List D} : atI (x :: y :: xs) 1 = some y := at_get (k := 1) rfl (by simp)
@[simp] theorem at2 {x y z : D} {xs : List D} : atI (x :: y :: z :: xs) 2 = some z := at_get (k := 2) rfl (by simp)
@[simp] theorem s1 : ¬ Str.ofString "dup" = Str.ofString "pop" := by decide
@[simp] theorem s2 : ¬ Str.ofString "swap" = Str.ofString "pop" := by decide
@[simp] theorem s3 : ¬ Str.ofString "swap" = Str.ofString "dup" := by decide
@[simp] theorem s4 : ¬ Str.ofString "dup" = Str.ofString "swap" := by decide
@[simp] theorem s5 : ¬ Str.ofString "pop" = Str.ofString "swap" := by decide
@[simp] theorem s6 : ¬ Str.ofString "pop" = Str.ofString "dup" := by decide
theorem oT_some {c : List D} {i : Ins} (h : nd i ≤ c.length) : oT (aft c i) = .tuple (app c i) := by unfold aft; rw [if_pos h]; rfl
theorem oT_none {c : List D} {i : Ins} (h : ¬ nd i ≤ c.length) : oT (aft c i) = .none := by unfold aft; rw [if_neg h]; rfl
section
variable {c : List D} {i : Ins} {m : Nat} {ρ : List Slot} {Z : Exn → List Slot → Prop} {Q : Rv → List Slot → Prop}
theorem c_after (hc : c.length ≤ 100000) (hi : i.ok 1000) : wpM Z (callM S__law_after [.val (.tuple c), .val i.d] [] []) ρ Q ↔ Q (.val (oT (aft c i))) ρ := callV [.tuple c, i.d] fun Z Q h => by
  unfold S__law_after
  refine wp_def (ext := []) rfl ?_
  unfold b__law_after
  cases i with
  | pop =>
    simp [N__law_after, Ins.d, outArgs, cut_last]
    refine ⟨fun ne => ?_, fun e => ?_⟩
    · rw [oT_some (i := .pop) (show 1 ≤ c.length from List.length_pos_iff.mpr ne)] at h
      exact h
    · rw [oT_none (i := .pop) (by rw [e]; decide)] at h
      exact h
  | dup n =>
    have h1 : 1 ≤ n := hi.1
    simp [N__law_after, Ins.d, outArgs]
    refine ⟨fun le => ?_, fun lt => ?_⟩
    · have e : ((c.length : Int) - (n : Int)) = ((c.length - n : Nat) : Int) := by omega
      rw [e, at_get rfl (show c.length - n < c.length by omega), wp_lift]
      refine ⟨_, rfl, by omega, ?_⟩
      rw [oT_some (i := .dup n) (show n ≤ c.length from le)] at h
      rw [app_dup] at h
      rw [List.getD_eq_getElem?_getD, List.getElem?_eq_getElem (show c.length - n < c.length by omega)] at h
      exact h
    · rw [oT_none (i := .dup n) (show ¬ n ≤ c.length by omega)] at h
      exact h
  | swap n =>
    have h1 : 1 ≤ n := hi.1
    simp [N__law_after, Ins.d, outArgs]
    refine ⟨fun le => ?_, fun lt => ?_⟩
    · rw [oT_none (i := .swap n) (show ¬ n + 1 ≤ c.length by omega)] at h
      exact h
    · have ne : c ≠ [] := fun z => by rw [z] at lt; exact absurd lt (by simp)
      have e : ((c.length : Int) - 1 - (n : Int)) = ((c.length - 1 - n : Nat) : Int) := by omega
      have e2 : (((c.length - 1 - n : Nat) : Int) + 1) = ((c.length - n : Nat) : Int) := by omega
      have l2 : ((c.drop (c.length - n)).dropLast).length ≤ c.length := by rw [List.length_dropLast, List.length_drop]; omega
      rw [at_last ne, wp_lift]
      refine ⟨_, rfl, Nat.le_trans len_cut (by omega), ?_⟩
      have hlt : c.length - 1 - n < c.length := by omega
      simp [e, e2, cut_to, cut_mid]
      rw [oT_some (i := .swap n) (show n + 1 ≤ c.length from lt)] at h
      refine ⟨by omega, ?_⟩
      rw [at_get rfl hlt, wp_lift]
      refine ⟨_, rfl, by omega, ?_⟩
      rw [app_swap] at h
      rw [List.getD_eq_getElem?_getD, List.getD_eq_getElem?_getD, List.getElem?_eq_getElem hlt, List.getElem?_eq_getElem (show c.length - 1 < c.length by omega)] at h
      rw [List.getLast_eq_getElem]
      simp [outArgs]
      simpa [Ins.d] using h
/-- ahead of the k-th instruction -/
def LdI (o : Option (List D)) (l : List Ins) (k : Nat) (ρ : List Slot) : Prop := ∃ x, isPin (some x) = false ∧ ρ = [.val (oT (led o (l.take k))), .val (.tuple (tp l)), x]
theorem led_step {o : Option (List D)} {l : List Ins} {k : Nat} (h : k < l.length) : led o (l.take (k + 1)) = (led o (l.take k)).bind fun c => aft c l[k] := by
  rw [List.take_succ_eq_append_getElem h, led_append]
  rfl
theorem aft_len {c c' : List D} {i : Ins} {m : Nat} (h : aft c i = some c') (ho : i.ok m) : (c'.length : Int) = c.length + ch i ∧ nd i ≤ c.length := by
  unfold aft at h
  split at h
  · rename_i hl
    cases h
    exact ⟨app_len hl ho, hl⟩
  · cases h
theorem ch_le {i : Ins} : ch i ≤ 1 := by cases i <;> simp [ch]
theorem led_len {m : Nat} : ∀ {l : List Ins} {c c' : List D}, (∀ i ∈ l, i.ok m) → led (some c) l = some c' → c'.length ≤ c.length + l.length
  | [], c, c', _, h => by cases h; simp
  | i :: l, c, c', ho, h => by
    have h : led (aft c i) l = some c' := h
    cases q : aft c i with
    | none => rw [q, led_none] at h; cases h
    | some c1 =>
      rw [q] at h
      have z := led_len (fun j hj => ho j (.tail _ hj)) h
      have e := (aft_len q (ho i (.head _))).1
      have e2 := ch_le (i := i)
      rw [List.length_cons]
      omega
theorem c_led {o : Option (List D)} {l : List Ins} (hc : ∀ c, o = some c → c.length + l.length ≤ 100000) (hi : ∀ i ∈ l, i.ok 1000) : wpM Z (callM S__law_led [.val (oT o), .val (.tuple (tp l))] [] []) ρ Q ↔ Q (.val (oT (led o l))) ρ := callV [oT o, .tuple (tp l)] fun Z Q h => by
  unfold S__law_led
  refine wp_def (ext := []) rfl ?_
  unfold b__law_led
  rw [es_cons]
  refine loop_val rfl rfl ?_
  refine for_inv (LdI o l) ⟨.non, rfl, by simp [N__law_led, led]⟩ (fun _ _ _ _ => rfl) ?_ ?_
  · rintro k d ρ2 hd ⟨x, px, e⟩
    subst e
    obtain ⟨i, hi2, ed⟩ : ∃ i, l[k]? = some i ∧ d = i.d := by
      unfold tp at hd
      rw [List.getElem?_map] at hd
      cases q : l[k]? with
      | none => rw [q] at hd; cases hd
      | some i => rw [q] at hd; cases hd; exact ⟨i, rfl, rfl⟩
    subst ed
    obtain ⟨hk, ei⟩ := List.getElem?_eq_some_iff.mp hi2
    simp [px]
    cases q : led o (l.take k) with
    | none =>
      simp [oT]
      exact ⟨.val i.d, rfl, by rw [led_step hk, q]; rfl⟩
    | some c =>
      have lc : c.length ≤ 100000 := by
        cases o with
        | none => rw [led_none] at q; cases q
        | some c0 =>
          have z := led_len (fun j hj => hi j (List.mem_of_mem_take hj)) q
          have := hc c0 rfl
          rw [List.length_take] at z
          omega
      simp [oT, ev_call (fn__law_led__law_after)]
      have ho := hi i (ei ▸ List.getElem_mem hk)
      have e2 : led o (l.take (k + 1)) = aft c i := by rw [led_step hk, q, ei]; rfl
      rw [c_after lc ho]
      simp
      exact ⟨.val i.d, rfl, by rw [e2]⟩
  · rintro ρ2 ⟨x, px, e⟩
    subst e
    have lt : (tp l).length = l.length := by unfold tp; simp
    rw [lt, List.take_length]
    simp [outArgs]
    exact h
end
/-- a part of a shuffle -/
inductive Part where
  | tup (l : List Ins)
  | lst (l : List Ins)
  | one (i : Ins)
def Part.d : Part → D
  | .tup l => .tuple (tp l)
  | .lst l => .list (tp l)
  | .one i => i.d
def Part.is : Part → List Ins
  | .tup l => l
  | .lst l => l
  | .one i => [i]
def isT : D → Bool
  | .tuple _ => true
  | _ => false
theorem tp_isT {l : List Ins} : (tp l).all isT = true := by
  rw [List.all_eq_true]
  intro d hd
  obtain ⟨i, _, e⟩ := List.mem_map.mp hd
  subst e
  cases i <;> rfl
section
variable {ρ : List Slot} {Z : Exn → List Slot → Prop} {Q : Rv → List Slot → Prop}
@[simp] theorem isa_ll {l : List D} : isaV (.list l) .list = true := rfl
@[simp] theorem isa_tl {l : List D} : isaV (.tuple l) .list = false := rfl
@[simp] theorem isa_tt {l : List D} : isaV (.tuple l) .tuple = true := rfl
theorem isa_T {d : D} : isaV d .tuple = isT d := by cases d <;> rfl
theorem itemsT_spec {xs : List D} (hl : xs.length ≤ 100000) {as : List Slot} (ha : as = [.val (.tuple xs)]) (h : Q (.fr (.lst (if xs.all isT then xs else [.tuple xs]))) as) : wpF Z S_items_of as [] Q := by
  subst ha
  unfold S_items_of
  refine wp_def (ext := []) rfl ?_
  unfold b_items_of
  simp [N_items_of]
  refine lc_map (xs := xs) (fun _ => true) (fun d => .bool (isT d)) (ei_val rfl rfl) rfl rfl (fun d hd R hR => by simpa using hR) (fun d hd _ R hR => ?_) (by omega) ?_
  · simp [isa_T]
    exact hR
  · have hb := bi_all (l := xs) (p := isT)
    have ef : List.filter (fun _ : D => true) xs = xs := by simp
    rw [ef]
    simp [outArgs]
    rw [hb, wp_lift]
    refine ⟨_, rfl, ?_⟩
    by_cases c : xs.all isT = true
    · rw [if_pos c] at h
      rw [c]
      simp [outArgs]
      exact h
    · rw [if_neg c] at h
      rw [Bool.not_eq_true] at c
      rw [c]
      simp [outArgs]
      exact h
theorem c_items {p : Part} (hl : p.is.length ≤ 100000) : wpM Z (callM S_items_of [.val p.d] [] []) ρ Q ↔ Q (.fr (.lst (tp p.is))) ρ := callF [p.d] fun Z Q h => by
  cases p with
  | lst l =>
    unfold S_items_of
    refine wp_def (ext := []) rfl ?_
    unfold b_items_of
    simp [N_items_of, Part.d, outArgs]
    exact h
  | tup l =>
    refine itemsT_spec (xs := tp l) (by simpa [tp, Part.is] using hl) rfl ?_
    rw [tp_isT]
    exact h
  | one i =>
    cases i with
    | pop => exact itemsT_spec (xs := [.str "pop"]) (by simp) rfl h
    | dup n => exact itemsT_spec (xs := [.str "dup", .int (n : Int)]) (by simp) rfl h
    | swap n => exact itemsT_spec (xs := [.str "swap", .int (n : Int)]) (by simp) rfl h
def flat (ps : List Part) : List Ins := ps.flatMap Part.is
theorem c_joined {ps : List Part} (hl : (flat ps).length ≤ 100000) (hn : ps.length ≤ 1000) : wpM Z (callM S_joined [.val (.tuple (ps.map Part.d))] [] []) ρ Q ↔ Q (.fr (.lst (tp (flat ps)))) ρ := callF [.tuple (ps.map Part.d)] fun Z Q h => by
  unfold S_joined
  refine wp_def (ext := []) rfl ?_
  unfold b_joined
  simp [N_joined]
  refine lc2_inv ?_
  rw [ei_ex, wp_var]
  refine ⟨_, ps.map Part.d, rfl, rfl, ?_⟩
  refine ⟨rfl, rfl, fun k acc ρ2 => acc = tp (flat (ps.take k)) ∧ ρ2 = [.val (.tuple (ps.map Part.d)), .non, .non], ⟨rfl, rfl⟩, fun _ _ _ _ _ => rfl, ?_, ?_⟩
  · rintro k d acc ρ2 hd ⟨ea, e⟩
    subst ea e
    obtain ⟨p, hp, ed⟩ : ∃ p, ps[k]? = some p ∧ d = p.d := by
      rw [List.getElem?_map] at hd
      cases q : ps[k]? with
      | none => rw [q] at hd; cases hd
      | some p => rw [q] at hd; cases hd; exact ⟨p, rfl, rfl⟩
    subst ed
    obtain ⟨hk, ep⟩ := List.getElem?_eq_some_iff.mp hp
    have hf : flat (ps.take (k + 1)) = flat (ps.take k) ++ p.is := by
      unfold flat
      rw [List.take_succ_eq_append_getElem hk, List.flatMap_append, ep]
      simp
    have hlen : (flat (ps.take (k + 1))).length ≤ (flat ps).length := by
      have e : flat ps = flat (ps.take (k + 1)) ++ flat (ps.drop (k + 1)) := by
        unfold flat
        rw [← List.flatMap_append, List.take_append_drop]
      rw [e, List.length_append]
      omega
    have hlp : p.is.length ≤ 100000 := by rw [hf, List.length_append] at hlen; omega
    simp [ev_call (fn_joined_items_of)]
    rw [c_items hlp]
    simp
    refine ⟨_, rfl, ?_⟩
    refine lcGo_inv (fun j acc ρ3 => acc = tp (flat (ps.take k)) ++ tp (p.is.take j) ∧ ρ3 = [.val (.tuple (ps.map Part.d)), .val p.d, .non]) ⟨by simp [tp], rfl⟩ (fun _ _ _ _ _ => rfl) ?_ ?_
    · rintro j d acc ρ3 hd2 ⟨ea, e⟩
      subst ea e
      have hj : j < p.is.length := by
        have := (List.getElem?_eq_some_iff.mp hd2).1
        simpa [tp] using this
      have ed : d = p.is[j].d := by
        unfold tp at hd2
        rw [List.getElem?_map, List.getElem?_eq_getElem hj] at hd2
        exact (Option.some.inj hd2).symm
      subst ed
      simp
      refine ⟨?_, ?_, rfl⟩
      · rw [hf, List.length_append] at hlen
        simp [tp, sizeLine_eq]
        omega
      · have e5 : tp (p.is.take (j + 1)) = tp (p.is.take j) ++ [p.is[j].d] := by
          unfold tp
          rw [List.take_succ_eq_append_getElem hj, List.map_append]
          rfl
        rw [e5]
    · rintro acc ρ3 ⟨ea, e⟩
      subst ea e
      refine ⟨?_, rfl⟩
      have : (tp p.is).length = p.is.length := by simp [tp]
      rw [this, List.take_length, hf]
      simp [tp]
  · rintro acc ρ2 ⟨ea, e⟩
    subst ea e
    have e6 : ps.take (ps.map Part.d).length = ps := by simp
    show retR (.fr (.lst (tp (flat (ps.take (ps.map Part.d).length))))) [.val (.tuple (ps.map Part.d)), .non, .non] _
    rw [e6]
    simp [outArgs]
    exact h
end
end PV.T
set_option Elab.async false
set_option linter.all false
set_option autoImplicit false
set_option maxRecDepth 100000
set_option maxHeartbeats 1000000
namespace PV.T
open PySem PySem.Spec PyProof.Rows L2 PV
/-- how deep a shuffle reaches, how it changes the height -/
def stp (s : Int × Int) (i : Ins) : Int × Int := (max s.1 ((nd i : Int) - s.2), s.2 + ch i)
def dpS (l : List Ins) : Int × Int := l.foldl stp (0, 0)
def dp (l : List Ins) : Nat := (dpS l).1.toNat
def gen (n : Nat) : List D := (List.range n).map fun k : Nat => .int ((k : Int) + 1)
theorem gen_len {n : Nat} : (gen n).length = n := by simp [gen]
theorem stp_mono : ∀ (l : List Ins) (s : Int × Int), s.1 ≤ (l.foldl stp s).1
  | [], _ => Int.le_refl _
  | i :: l, s => Int.le_trans (Int.le_max_left _ _) (stp_mono l (stp s i))
theorem led_iff {m : Nat} : ∀ {l : List Ins} {c : List D} {h s d : Int}, (∀ i ∈ l, i.ok m) → (c.length : Int) = h + s → d ≤ h → (((led (some c) l).isSome = true ↔ (l.foldl stp (d, s)).1 ≤ h) ∧ ∀ c', led (some c) l = some c' → (c'.length : Int) = h + (l.foldl stp (d, s)).2)
  | [], c, h, s, d, _, hc, hd => by
    constructor
    · constructor
      · exact fun _ => hd
      · exact fun _ => rfl
    · intro c' e
      cases e
      exact hc
  | i :: l, c, h, s, d, ho, hc, hd => by
    have hl : led (some c) (i :: l) = led (aft c i) l := rfl
    rw [hl]
    by_cases q : nd i ≤ c.length
    · have ea : aft c i = some (app c i) := by unfold aft; rw [if_pos q]
      rw [ea]
      have e := app_len q (ho i (.head _))
      exact led_iff (h := h) (s := s + ch i) (d := max d ((nd i : Int) - s)) (fun j hj => ho j (.tail _ hj)) (by omega) (by omega)
    · have ea : aft c i = none := by unfold aft; rw [if_neg q]
      rw [ea, led_none]
      refine ⟨⟨fun z => (by cases z), fun z => ?_⟩, fun _ e => (by cases e)⟩
      have z2 := stp_mono l (stp (d, s) i)
      have z3 : (l.foldl stp (stp (d, s) i)).1 ≤ h := z
      have z4 : ((nd i : Int) - s) ≤ (stp (d, s) i).1 := Int.le_max_right _ _
      omega
theorem dp_nn {l : List Ins} : 0 ≤ (dpS l).1 := stp_mono l (0, 0)
theorem dp_cast {l : List Ins} : ((dp l : Nat) : Int) = (dpS l).1 := Int.toNat_of_nonneg dp_nn
theorem led_dp {m : Nat} {l : List Ins} {c : List D} (ho : ∀ i ∈ l, i.ok m) : (led (some c) l).isSome = true ↔ dp l ≤ c.length := by
  have z := (led_iff (c := c) (h := c.length) (s := 0) (d := 0) ho (by omega) (by omega)).1
  rw [z]
  have := dp_cast (l := l)
  show (dpS l).1 ≤ _ ↔ _
  omega
/-- the cells that a shuffle leaves of 1, 2, .. -/
def cells (l : List Ins) (n : Nat) : List D := (led (some (gen n)) l).getD []
theorem led_cells {m : Nat} {l : List Ins} {n : Nat} (ho : ∀ i ∈ l, i.ok m) (h : dp l ≤ n) : led (some (gen n)) l = some (cells l n) := by
  have z := (led_dp (c := gen n) ho).mpr (by rw [gen_len]; exact h)
  unfold cells
  cases q : led (some (gen n)) l with
  | none => rw [q] at z; cases z
  | some c => rfl
def cardD (l : List Ins) : D := .tuple [.int (dp l : Nat), .tuple (cells l (dp l))]
theorem tp_at {l : List Ins} {k : Nat} {d : D} (h : (tp l)[k]? = some d) : ∃ hk : k < l.length, d = l[k].d := by
  unfold tp at h
  rw [List.getElem?_map] at h
  cases q : l[k]? with
  | none => rw [q] at h; cases h
  | some i =>
    rw [q] at h
    cases h
    obtain ⟨hk, e⟩ := List.getElem?_eq_some_iff.mp q
    exact ⟨hk, by rw [e]⟩
theorem stp_step {l : List Ins} {k : Nat} {s : Int × Int} (h : k < l.length) : (l.take (k + 1)).foldl stp s = stp ((l.take k).foldl stp s) l[k] := by
  rw [List.take_succ_eq_append_getElem h, List.foldl_append]
  rfl
theorem rg_gen {n : Nat} : rgD 1 ((n : Int) + 1) = gen n := by
  unfold rgD gen
  rw [show ((n : Int) + 1 - 1).toNat = n by omega]
  exact List.map_congr_left fun k _ => by rw [Int.add_comm]
theorem rg_ok {n : Nat} (hn : n ≤ 1000000) : rgOk 1 ((n : Int) + 1) = true := by
  unfold rgOk
  simp only [Bool.and_eq_true, decide_eq_true_eq]
  omega
theorem dp_le {m : Nat} : ∀ {l : List Ins} {s : Int × Int} {b : Int}, (∀ i ∈ l, i.ok m) → 0 ≤ b → s.1 ≤ m + 1 + b → -b ≤ s.2 → (l.foldl stp s).1 ≤ m + 1 + b + l.length
  | [], s, b, _, _, h1, _ => by simpa using h1
  | i :: l, s, b, ho, hb, h1, h2 => by
    have hi := ho i (.head _)
    have e1 : (nd i : Int) ≤ m + 1 := by
      cases i with
      | pop => show (1 : Int) ≤ _; omega
      | dup n => have := hi.2; show (n : Int) ≤ _; omega
      | swap n => have := hi.2; show ((n + 1 : Nat) : Int) ≤ _; omega
    have e2 : -1 ≤ ch i := by cases i <;> simp [ch]
    have z := dp_le (l := l) (s := stp s i) (b := b + 1) (fun j hj => ho j (.tail _ hj)) (by omega) (by show max s.1 ((nd i : Int) - s.2) ≤ _; omega) (by show _ ≤ s.2 + ch i; omega)
    rw [List.length_cons]
    have : (List.foldl stp s (i :: l)) = List.foldl stp (stp s i) l := rfl
    rw [this]
    omega
theorem dp_lt {m : Nat} {l : List Ins} (ho : ∀ i ∈ l, i.ok m) : dp l ≤ m + 1 + l.length := by
  have z := dp_le (s := (0, 0)) (b := 0) ho (Int.le_refl _) (by show (0 : Int) ≤ _; omega) (Int.le_refl _)
  have e := dp_cast (l := l)
  have : (dpS l).1 ≤ _ := z
  omega
section
variable {ρ : List Slot} {Z : Exn → List Slot → Prop} {Q : Rv → List Slot → Prop}
theorem c_ledS {c : List D} {l : List Ins} (hc : c.length + l.length ≤ 100000) (hi : ∀ i ∈ l, i.ok 1000) : wpM Z (callM S__law_led [.val (.tuple c), .val (.tuple (tp l))] [] []) ρ Q ↔ Q (.val (oT (led (some c) l))) ρ := c_led (o := some c) (fun c0 e => by cases e; exact hc) hi
end
end PV.T
set_option Elab.async false
set_option linter.all false
set_option autoImplicit false
set_option maxRecDepth 100000
set_option maxHeartbeats 4000000
namespace PV.T
open PySem PySem.Spec PyProof.Rows L2 PV
/-- ahead of the k-th instruction -/
def DeI (cells : List Int) (a0 m n w : Int) (M k : Nat) (ρ : List Slot) : Prop := ∃ a g l s5 s6 s7, 0 ≤ a ∧ a ≤ a0 + 2 * (k : Int) ∧ 0 ≤ g ∧ l.length = k ∧ (∀ i ∈ l, Ins.ok M i) ∧ isPin (some s5) = false ∧ isPin (some s6) = false ∧ isPin (some s7) = false ∧
  ρ = [.own (some 0) (.lst (Pen cells a g)), .val (.int n), .val (.int m), .val (.int w), .own none (.lst (tp l)), s5, s6, s7]
theorem tp_snoc {l : List Ins} {i : Ins} : tp l ++ [i.d] = tp (l ++ [i]) := by simp [tp]
theorem ok_snoc {l : List Ins} {i : Ins} {M : Nat} (h : ∀ j ∈ l, Ins.ok M j) (hi : i.ok M) : ∀ j ∈ l ++ [i], Ins.ok M j := fun j hj => by
  rcases List.mem_append.mp hj with q | q
  · exact h j q
  · simp at q; subst q; exact hi
section
variable {Z : Exn → List Slot → Prop} {cells : List Int} {a g m n : Int} {Q : Rv → List Slot → Prop} {M : Nat}
theorem deeds_spec (ha : 0 ≤ a) (ha2 : a ≤ 100000) (hg : 0 ≤ g) (hn : 0 ≤ n) (hn2 : n ≤ 1000) (hm : 1 ≤ m) (hm2 : m ≤ M) (hM : 2 ≤ M) (hM2 : M ≤ 1000) (h : ∀ l a' g', l.length = n.toNat → (∀ i ∈ l, Ins.ok M i) → 0 ≤ a' → a' ≤ a + 1 + 2 * n → 0 ≤ g' → Q (.val (.tuple (tp l))) [.own (some 0) (.lst (Pen cells a' g')), .val (.int n), .val (.int m)]) :
    wpF Z S__law_deeds [.own (some 0) (.lst (Pen cells a g)), .val (.int n), .val (.int m)] [] Q := by
  unfold S__law_deeds
  refine wp_def (ext := []) rfl ?_
  unfold b__law_deeds
  simp [N__law_deeds]
  refine draw_call draw_ok rfl ha (by omega) hg (by omega) (by omega) fun w a1 g1 x1 y1 ha1 hb1 hg1 => ?_
  simp
  rw [es_loop, ei_rg1]
  obtain ⟨N, eN⟩ : ∃ N : Nat, n = (N : Int) := ⟨n.toNat, by omega⟩
  subst eN
  simp
  refine ⟨rgOk_nat (by omega), rfl, ?_⟩
  refine for_inv (DeI cells a1 m N w M) ⟨a1, g1, [], .non, .non, .non, ha1, by omega, hg1, rfl, fun i hi => (by cases hi), rfl, rfl, rfl, rfl⟩ (fun _ _ _ _ => rfl) ?_ ?_
  · rintro k d ρ hd ⟨a5, g5, l, s5, s6, s7, h1, h2, h3, h4, h5, f5, f6, f7, e⟩
    subst e
    have hk : k < N := by
      have := (List.getElem?_eq_some_iff.mp hd).1
      simpa using this
    have ed : d = .int (k : Int) := by
      rw [List.getElem?_map, List.getElem?_range hk] at hd
      exact (Option.some.inj hd).symm
    subst ed
    simp [f5, f6, f7]
    obtain ⟨q1, hq1, eq1⟩ := at_mem (xs := [PyData.int m, .int m, .int m, .int 2]) (v := w) x1 (by simpa using y1)
    have : ∃ c : Int, q1 = .int c ∧ 1 ≤ c ∧ c ≤ M := by
      simp only [List.mem_cons, List.not_mem_nil, or_false] at hq1
      rcases hq1 with e | e | e | e <;> subst e
      · exact ⟨m, rfl, hm, hm2⟩
      · exact ⟨m, rfl, hm, hm2⟩
      · exact ⟨m, rfl, hm, hm2⟩
      · exact ⟨2, rfl, by omega, by omega⟩
    obtain ⟨c, e, c1, c2⟩ := this
    subst e
    simp [eq1]
    refine draw_call draw_ok rfl h1 (by omega) h3 (by omega) (by omega) fun f a6 g6 x6 y6 ha6 hb6 hg6 => ?_
    simp [f6]
    refine draw_call draw_ok rfl ha6 (by omega) hg6 (by omega) (by omega) fun v a7 g7 x7 y7 ha7 hb7 hg7 => ?_
    obtain ⟨q2, hq2, eq2⟩ := at_mem (xs := [PyData.int 0, .int 1, .int 2, .int 1, .int 2, .int 0, .int 2, .int 2]) (v := v) x7 (by simpa using y7)
    have : ∃ z : Nat, q2 = .int (z : Int) ∧ z < 3 := by
      simp only [List.mem_cons, List.not_mem_nil, or_false] at hq2
      rcases hq2 with e | e | e | e | e | e | e | e <;> subst e
      · exact ⟨0, rfl, by omega⟩
      · exact ⟨1, rfl, by omega⟩
      · exact ⟨2, rfl, by omega⟩
      · exact ⟨1, rfl, by omega⟩
      · exact ⟨2, rfl, by omega⟩
      · exact ⟨0, rfl, by omega⟩
      · exact ⟨2, rfl, by omega⟩
      · exact ⟨2, rfl, by omega⟩
    obtain ⟨z, e, hz⟩ := this
    subst e
    obtain ⟨F, eF⟩ : ∃ F : Nat, 1 + f = (F : Int) := ⟨(1 + f).toNat, by omega⟩
    rw [eF]
    simp [eq2, f7]
    have fin : ∀ (i : Ins) (z' : Int), i.ok M → DeI cells a1 m N w M (k + 1) [.own (some 0) (.lst (Pen cells a7 g7)), .val (.int N), .val (.int m), .val (.int w), .own none (.lst (tp l ++ [i.d])), .val (.int (k : Int)), .val (.int (F : Int)), .val (.int z')] := fun i z' hi =>
      ⟨a7, g7, l ++ [i], _, _, _, ha7, by omega, hg7, by simp [h4], ok_snoc h5 hi, rfl, rfl, rfl, by rw [tp_snoc]⟩
    have big : (tp l).length < 16777216 := by simp [tp]; omega
    have hF : 1 ≤ F ∧ F ≤ M := by omega
    have fp := fun z' : Int => fin .pop z' trivial
    have fd := fun z' : Int => fin (.dup F) z' hF
    have fs := fun z' : Int => fin (.swap F) z' hF
    simp only [Ins.d] at fp fd fs
    have hz3 : z = 0 ∨ z = 1 ∨ z = 2 := by omega
    rcases hz3 with e | e | e <;> subst e <;> simp [big, fp, fd, fs]
  · rintro ρ ⟨a5, g5, l, s5, s6, s7, h1, h2, h3, h4, h5, f5, f6, f7, e⟩
    subst e
    simp at h2 h4
    simp [outArgs]
    exact h l a5 g5 (by simpa using h4) h5 h1 (by omega) h3
theorem deeds_call {ρ : List Slot} {i : Nat} {pin : Option Nat} (hi : ρ[i]? = some (.own pin (.lst (Pen cells a g)))) (ha : 0 ≤ a) (ha2 : a ≤ 100000) (hg : 0 ≤ g) (hn : 0 ≤ n) (hn2 : n ≤ 1000) (hm : 1 ≤ m) (hm2 : m ≤ M) (hM : 2 ≤ M) (hM2 : M ≤ 1000)
    (h : ∀ l a' g', l.length = n.toNat → (∀ i ∈ l, Ins.ok M i) → 0 ≤ a' → a' ≤ a + 1 + 2 * n → 0 ≤ g' → Q (.val (.tuple (tp l))) (ρ.set i (.own pin (.lst (Pen cells a' g'))))) : wpM Z (callM S__law_deeds [.bor i, .val (.int n), .val (.int m)] [] []) ρ Q := by
  refine wp_call (as := [.own (some 0) (.lst (Pen cells a g)), .val (.int n), .val (.int m)]) (by simp [borNodup, hi]) (by simp [argsOf, argOf, hi]) (deeds_spec ha ha2 hg hn hn2 hm hm2 hM hM2 fun l a' g' h1 h2 h3 h4 h5 => ⟨_, by simp [backOf, hi], by simp, h l a' g' h1 h2 h3 h4 h5⟩)
end
end PV.T
set_option Elab.async false
set_option linter.all false
set_option autoImplicit false
set_option maxRecDepth 100000
set_option maxHeartbeats 4000000
namespace PV.T
open PySem PySem.Spec PyProof.Rows L2 PV
theorem led_at {m : Nat} {l : List Ins} {k : Nat} (ho : ∀ i ∈ l, i.ok m) : led (some (gen k)) l = if dp l ≤ k then some (cells l k) else none := by
  by_cases h : dp l ≤ k
  · rw [if_pos h]; exact led_cells ho h
  · rw [if_neg h]
    cases q : led (some (gen k)) l with
    | none => rfl
    | some c =>
      have z := (led_dp (c := gen k) ho).mp (by rw [q]; rfl)
      rw [gen_len] at z
      exact absurd z h
theorem app_mem {c : List D} {i : Ins} {m : Nat} {x : D} (hn : nd i ≤ c.length) (ho : i.ok m) (h : x ∈ app c i) : x ∈ c := by
  have g : ∀ j, j < c.length → c.getD j .none ∈ c := fun j hj => by
    rw [List.getD_eq_getElem?_getD, List.getElem?_eq_getElem hj]
    exact List.getElem_mem hj
  cases i with
  | pop => exact List.dropLast_subset _ h
  | dup n =>
    rw [app_dup] at h
    have h1 : 1 ≤ n := ho.1
    have h2 : n ≤ c.length := hn
    rcases List.mem_append.mp h with q | q
    · exact q
    · rw [List.mem_singleton.mp q]
      exact g _ (by omega)
  | swap n =>
    rw [app_swap] at h
    have h2 : n + 1 ≤ c.length := hn
    rcases List.mem_append.mp h with q | q
    · rcases List.mem_append.mp q with q | q
      · rcases List.mem_append.mp q with q | q
        · exact List.mem_of_mem_take q
        · rw [List.mem_singleton.mp q]
          exact g _ (by omega)
      · exact List.mem_of_mem_drop (List.dropLast_subset _ q)
    · rw [List.mem_singleton.mp q]
      exact g _ (by omega)
theorem led_mem {m : Nat} {x : D} : ∀ {l : List Ins} {c c' : List D}, (∀ i ∈ l, i.ok m) → led (some c) l = some c' → x ∈ c' → x ∈ c
  | [], c, c', _, h, hx => by cases h; exact hx
  | i :: l, c, c', ho, h, hx => by
    have h : led (aft c i) l = some c' := h
    cases q : aft c i with
    | none => rw [q, led_none] at h; cases h
    | some c1 =>
      rw [q] at h
      have z := led_mem (fun j hj => ho j (.tail _ hj)) h hx
      have hn := (aft_len q (ho i (.head _))).2
      unfold aft at q
      rw [if_pos hn] at q
      cases q
      exact app_mem hn (ho i (.head _)) z
theorem cells_len {m : Nat} {l : List Ins} {k : Nat} (ho : ∀ i ∈ l, i.ok m) (h : dp l ≤ k) : (cells l k).length ≤ k + l.length := by
  have z := led_len ho (led_cells ho h)
  rw [gen_len] at z
  exact z
theorem ins_tm {i : Ins} (ho : i.ok 1000) : Tm 1 10 i.d := by
  cases i with
  | pop =>
    refine Tm.tup (k := 0) (n := 4) (fun x hx => ?_) (by decide)
    simp at hx
    subst hx
    exact .str (by decide) (by decide)
  | dup n =>
    have h2 := ho.2
    refine Tm.tup (k := 0) (n := 4) (fun x hx => ?_) (by simp)
    simp at hx
    rcases hx with e | e <;> subst e
    · exact .str (by decide) (by decide)
    · exact .i (by omega)
  | swap n =>
    have h2 := ho.2
    refine Tm.tup (k := 0) (n := 4) (fun x hx => ?_) (by simp)
    simp at hx
    rcases hx with e | e <;> subst e
    · exact .str (by decide) (by decide)
    · exact .i (by omega)
theorem tp_mem {l : List Ins} (ho : ∀ i ∈ l, i.ok 1000) : ∀ d ∈ tp l, Tm 1 10 d := fun d hd => by
  obtain ⟨i, hi, e⟩ := List.mem_map.mp hd
  subst e
  exact ins_tm (ho i hi)
theorem tp_tm {l : List Ins} (ho : ∀ i ∈ l, i.ok 1000) (hl : l.length ≤ 700) : Tm 2 7700 (.tuple (tp l)) := Tm.tup (tp_mem ho) (by simp [tp]; omega)
theorem tp_tmL {l : List Ins} (ho : ∀ i ∈ l, i.ok 1000) (hl : l.length ≤ 700) : Tm 2 7700 (.list (tp l)) := Tm.lst (tp_mem ho) (by simp [tp]; omega)
theorem cells_tm {l : List Ins} {k : Nat} (ho : ∀ i ∈ l, i.ok 1000) (h : dp l ≤ k) (hk : k + l.length ≤ 5000) : Tm 1 5000 (.tuple (cells l k)) := by
  refine Tm.tup (k := 0) (n := 0) (fun x hx => ?_) (by have := cells_len ho h; omega)
  have z := led_mem ho (led_cells ho h) hx
  obtain ⟨j, hj, e⟩ := List.mem_map.mp z
  subst e
  have := List.mem_range.mp hj
  exact .i (by omega)
theorem card_tm {l : List Ins} (ho : ∀ i ∈ l, i.ok 1000) (hl : l.length ≤ 700) : Tm 2 10002 (cardD l) := by
  have hd := dp_lt ho
  refine Tm.tup (k := 1) (n := 5000) (fun x hx => ?_) (by simp)
  simp at hx
  rcases hx with e | e <;> subst e
  · exact .i (by omega)
  · exact cells_tm ho (Nat.le_refl _) (by omega)
end PV.T
set_option Elab.async false
set_option linter.all false
set_option autoImplicit false
set_option maxRecDepth 100000
set_option maxHeartbeats 4000000
namespace PV.T
open PySem PySem.Spec PyProof.Rows L2 PV
@[simp] theorem tp_len {l : List Ins} : (tp l).length = l.length := by simp [tp]
@[simp] theorem at3 {x y z u : D} {xs : List D} : atI (x :: y :: z :: u :: xs) 3 = some u := at_get (k := 3) rfl (by simp)
theorem tp_app {l l' : List Ins} : tp l ++ tp l' = tp (l ++ l') := by simp [tp]
theorem tp_to {l : List Ins} {n : Nat} : cutD (tp l) none (some (n : Int)) = tp (l.take n) := by rw [cut_to]; simp [tp]
theorem tp_from {l : List Ins} {n : Nat} : cutD (tp l) (some (n : Int)) none = tp (l.drop n) := by rw [cut_from]; simp [tp]
theorem tp_fromI {l : List Ins} {i : Int} {n : Nat} (e : i = (n : Int)) : cutD (tp l) (some i) none = tp (l.drop n) := by rw [e, tp_from]
theorem tp_mid {l : List Ins} {n : Nat} : cutD (tp l) (some (n : Int)) (some ((n : Int) + 2)) = tp ((l.drop n).take 2) := by
  have e : ((n : Int) + 2) = ((n + 2 : Nat) : Int) := by omega
  unfold cutD tp
  rw [e, HT.sIx_nat, HT.sIx_nat, List.length_map, ← List.map_drop, ← List.map_take]
  by_cases h : n ≤ l.length
  · rw [Nat.min_eq_left h]
    by_cases h2 : n + 2 ≤ l.length
    · rw [Nat.min_eq_left h2, show n + 2 - n = 2 by omega]
    · rw [Nat.min_eq_right (by omega), List.take_of_length_le (by rw [List.length_drop]; omega), List.take_of_length_le (by rw [List.length_drop]; omega)]
  · have e1 : min n l.length = l.length := by omega
    have e2 : l.drop n = [] := List.drop_eq_nil_of_le (by omega)
    rw [e1, e2]
    simp
theorem tp_rev {l : List Ins} : (tp l).reverse = tp l.reverse := by simp [tp]
theorem ok_app {l l' : List Ins} {M : Nat} (h : ∀ j ∈ l, Ins.ok M j) (h' : ∀ j ∈ l', Ins.ok M j) : ∀ j ∈ l ++ l', Ins.ok M j := fun j hj => (List.mem_append.mp hj).elim (h j) (h' j)
theorem ok_take {l : List Ins} {M n : Nat} (h : ∀ j ∈ l, Ins.ok M j) : ∀ j ∈ l.take n, Ins.ok M j := fun j hj => h j (List.mem_of_mem_take hj)
theorem ok_drop {l : List Ins} {M n : Nat} (h : ∀ j ∈ l, Ins.ok M j) : ∀ j ∈ l.drop n, Ins.ok M j := fun j hj => h j (List.mem_of_mem_drop hj)
theorem ok_rev {l : List Ins} {M : Nat} (h : ∀ j ∈ l, Ins.ok M j) : ∀ j ∈ l.reverse, Ins.ok M j := fun j hj => h j (List.mem_reverse.mp hj)
theorem ok_mono {l : List Ins} {M M' : Nat} (h : ∀ j ∈ l, Ins.ok M j) (hm : M ≤ M') : ∀ j ∈ l, Ins.ok M' j := fun j hj => (h j hj).mono hm
section
variable {ρ : List Slot} {Z : Exn → List Slot → Prop} {Q : Rv → List Slot → Prop} {i : Ins} {m : Nat}
theorem c_needs (hi : i.ok 1000) : wpM Z (callM S__law_needs [.val i.d] [] []) ρ Q ↔ Q (.val (.tuple [.int (nd i : Nat), .int (ch i)])) ρ := callV [i.d] fun Z Q h => by
  unfold S__law_needs
  refine wp_def (ext := []) rfl ?_
  unfold b__law_needs
  cases i with
  | pop =>
    simp [N__law_needs, Ins.d, outArgs]
    simpa [Ins.d, nd, ch] using h
  | dup n =>
    simp [N__law_needs, Ins.d, outArgs]
    simpa [Ins.d, nd, ch] using h
  | swap n =>
    simp [N__law_needs, Ins.d, outArgs]
    simpa [Ins.d, nd, ch] using h
/-- ahead of the k-th instruction -/
def LcI (l : List Ins) (k : Nat) (ρ : List Slot) : Prop := ∃ x y z, isPin (some x) = false ∧ isPin (some y) = false ∧ isPin (some z) = false ∧ ρ = [.val (.tuple (tp l)), .val (.int ((l.take k).foldl stp (0, 0)).1), .val (.int ((l.take k).foldl stp (0, 0)).2), x, y, z]
theorem c_lcard {l : List Ins} (hl : l.length ≤ 2000) (ho : ∀ i ∈ l, i.ok 1000) : wpM Z (callM S__law_card [.val (.tuple (tp l))] [] []) ρ Q ↔ Q (.val (cardD l)) ρ := callV [.tuple (tp l)] fun Z Q h => by
  have hd := dp_lt ho
  unfold S__law_card
  refine wp_def (ext := []) rfl ?_
  unfold b__law_card
  simp [N__law_card]
  refine loop_val rfl rfl ?_
  refine for_inv (LcI l) ⟨.non, .non, .non, rfl, rfl, rfl, rfl⟩ (fun _ _ _ _ => rfl) ?_ ?_
  · rintro k d ρ2 hd2 ⟨x, y, z, px, py, pz, e⟩
    subst e
    obtain ⟨hk, ed⟩ := tp_at hd2
    subst ed
    simp [px, ev_call (fn__law_card__law_needs)]
    rw [c_needs (ho _ (List.getElem_mem hk))]
    simp [py, pz]
    refine ⟨.val l[k].d, .val (.int (nd l[k] : Nat)), .val (.int (ch l[k])), rfl, rfl, rfl, ?_⟩
    rw [stp_step hk]
    have em : ∀ a b : Int, (if a < b then b else a) = max a b := fun a b => by split <;> omega
    rw [em]
    rfl
  · rintro ρ2 ⟨x, y, z, px, py, pz, e⟩
    subst e
    rw [tp_len, List.take_length]
    have e1 : (l.foldl stp (0, 0)).1 = ((dp l : Nat) : Int) := dp_cast.symm
    rw [e1]
    simp [ev_call (fn__law_card__law_led)]
    rw [rg_gen]
    refine ⟨rg_ok (by omega), by rw [gen_len]; omega, ?_⟩
    rw [c_ledS (by rw [gen_len]; omega) ho, led_cells ho (Nat.le_refl _)]
    simp [oT, outArgs]
    exact h
end
end PV.T
set_option Elab.async false
set_option linter.all false
set_option autoImplicit false
set_option maxRecDepth 100000
set_option maxHeartbeats 1000000
namespace PV.T
open PySem PySem.Spec PyProof.Rows L2 PV
theorem getD_app {p c : List D} {k : Nat} (h : p.length ≤ k) : (p ++ c).getD k .none = c.getD (k - p.length) .none := by
  rw [List.getD_eq_getElem?_getD, List.getD_eq_getElem?_getD, List.getElem?_append_right h]
theorem getD_map {c : List D} {f : D → D} {k : Nat} (h : k < c.length) : (c.map f).getD k .none = f (c.getD k .none) := by
  rw [List.getD_eq_getElem?_getD, List.getD_eq_getElem?_getD, List.getElem?_map, List.getElem?_eq_getElem h]
  rfl
/-- cells below stay -/
theorem app_pre {p c : List D} {i : Ins} {m : Nat} (h : nd i ≤ c.length) (ho : i.ok m) : app (p ++ c) i = p ++ app c i := by
  cases i with
  | pop =>
    have h : 1 ≤ c.length := h
    have ne : c ≠ [] := fun z => by rw [z] at h; exact absurd h (by decide)
    exact List.dropLast_append_of_ne_nil ne
  | dup n =>
    have h : n ≤ c.length := h
    have h1 : 1 ≤ n := ho.1
    rw [app_dup, app_dup, getD_app (by simp; omega), List.append_assoc, List.length_append]
    congr 3
    congr 1
    omega
  | swap n =>
    have h : n + 1 ≤ c.length := h
    have h1 : 1 ≤ n := ho.1
    have t : (p ++ c).take ((p ++ c).length - 1 - n) = p ++ c.take (c.length - 1 - n) := by
      rw [List.length_append, List.take_append]
      rw [List.take_of_length_le (by omega)]
      congr 2
      omega
    have d : (p ++ c).drop ((p ++ c).length - n) = c.drop (c.length - n) := by
      rw [List.length_append, List.drop_append, List.drop_of_length_le (by omega)]
      simp
      congr 1
      omega
    rw [app_swap, app_swap, t, d, getD_app (by simp; omega), getD_app (by simp; omega), List.length_append]
    simp only [List.append_assoc]
    rw [show p.length + c.length - 1 - p.length = c.length - 1 by omega, show p.length + c.length - 1 - n - p.length = c.length - 1 - n by omega]
/-- values renamed -/
theorem app_map {c : List D} {i : Ins} {m : Nat} {f : D → D} (h : nd i ≤ c.length) (ho : i.ok m) : app (c.map f) i = (app c i).map f := by
  cases i with
  | pop => simp [app, List.map_dropLast]
  | dup n =>
    have h : n ≤ c.length := h
    have h1 : 1 ≤ n := ho.1
    rw [app_dup, app_dup, List.length_map, getD_map (by omega)]
    simp
  | swap n =>
    have h : n + 1 ≤ c.length := h
    have h1 : 1 ≤ n := ho.1
    rw [app_swap, app_swap, List.length_map, getD_map (by omega), getD_map (by omega)]
    simp [List.map_take, List.map_drop, List.map_dropLast]
theorem aft_pre {p c c' : List D} {i : Ins} {m : Nat} (h : aft c i = some c') (ho : i.ok m) : aft (p ++ c) i = some (p ++ c') := by
  have z := (aft_len h ho).2
  unfold aft at h ⊢
  rw [if_pos z] at h
  cases h
  rw [if_pos (by simp; omega), app_pre z ho]
theorem aft_map {c : List D} {i : Ins} {m : Nat} {f : D → D} (ho : i.ok m) : aft (c.map f) i = (aft c i).map (List.map f) := by
  unfold aft
  rw [List.length_map]
  by_cases h : nd i ≤ c.length
  · rw [if_pos h, if_pos h, app_map h ho]
    rfl
  · rw [if_neg h, if_neg h]
    rfl
theorem led_pre {m : Nat} {p : List D} : ∀ {l : List Ins} {c c' : List D}, (∀ i ∈ l, i.ok m) → led (some c) l = some c' → led (some (p ++ c)) l = some (p ++ c')
  | [], c, c', _, h => by cases h; rfl
  | i :: l, c, c', ho, h => by
    have h : led (aft c i) l = some c' := h
    show led (aft (p ++ c) i) l = _
    cases q : aft c i with
    | none => rw [q, led_none] at h; cases h
    | some c1 =>
      rw [q] at h
      rw [aft_pre q (ho i (.head _))]
      exact led_pre (fun j hj => ho j (.tail _ hj)) h
theorem led_map {m : Nat} {f : D → D} : ∀ {l : List Ins} {o : Option (List D)}, (∀ i ∈ l, i.ok m) → led (o.map (List.map f)) l = (led o l).map (List.map f)
  | [], _, _ => rfl
  | i :: l, o, ho => by
    have e : (o.map (List.map f)).bind (fun c => aft c i) = (o.bind fun c => aft c i).map (List.map f) := by
      cases o with
      | none => rfl
      | some c => exact aft_map (ho i (.head _))
    show led ((o.map (List.map f)).bind fun c => aft c i) l = _
    rw [e]
    exact led_map fun j hj => ho j (.tail _ hj)
/-- a value of the generic stack, looked up in s -/
def look (s : List D) : D → D
  | .int i => s.getD (i.toNat - 1) .none
  | _ => .none
theorem look_gen {s : List D} : (gen s.length).map (look s) = s := by
  refine List.ext_getElem (by simp [gen_len]) fun k h1 h2 => ?_
  simp only [gen, List.getElem_map, List.getElem_range, look]
  have e : ((k : Int) + 1).toNat - 1 = k := by omega
  rw [e, List.getD_eq_getElem?_getD, List.getElem?_eq_getElem h2]
  rfl
/-- a shuffle on any stack of its depth -/
theorem led_look {m : Nat} {l : List Ins} {s : List D} (ho : ∀ i ∈ l, i.ok m) (h : dp l ≤ s.length) : led (some s) l = some ((cells l s.length).map (look s)) := by
  have z := led_map (f := look s) (o := some (gen s.length)) ho
  rw [led_cells ho h] at z
  have e : (some (gen s.length)).map (List.map (look s)) = some s := by
    show some ((gen s.length).map (look s)) = _
    rw [look_gen]
  rw [e] at z
  exact z
theorem led_low {m : Nat} {l : List Ins} {s : List D} (ho : ∀ i ∈ l, i.ok m) (h : s.length < dp l) : led (some s) l = none := by
  cases q : led (some s) l with
  | none => rfl
  | some c =>
    have z := (led_dp (c := s) ho).mp (by rw [q]; rfl)
    omega
/-- the numbers of a card's word -/
theorem cells_rg {l : List Ins} {k : Nat} {m : Nat} (ho : ∀ i ∈ l, i.ok m) (h : dp l ≤ k) : ∀ x ∈ cells l k, ∃ j : Nat, x = .int (j : Int) ∧ 1 ≤ j ∧ j ≤ k := fun x hx => by
  have z := led_mem ho (led_cells ho h) hx
  obtain ⟨j, hj, e⟩ := List.mem_map.mp z
  have := List.mem_range.mp hj
  exact ⟨j + 1, by rw [← e]; congr 1, by omega, by omega⟩
end PV.T
set_option Elab.async false
set_option linter.all false
set_option autoImplicit false
set_option maxRecDepth 100000
set_option maxHeartbeats 4000000
namespace PV.T
open PySem PySem.Spec PyProof.Rows L2 PV
theorem cells_int {l : List Ins} {k : Nat} (ho : ∀ i ∈ l, i.ok 1000) (h : dp l ≤ k) : ∀ x ∈ cells l k, ∃ i : Int, x = .int i := fun x hx => by
  have z := led_mem ho (led_cells ho h) hx
  obtain ⟨j, hj, e⟩ := List.mem_map.mp z
  exact ⟨_, e.symm⟩
theorem cells_fit {l : List Ins} {k : Nat} (ho : ∀ i ∈ l, i.ok 1000) (h : dp l ≤ k) : FitK 1 (.tuple (cells l k)) := FitK.tup (k := 0) fun x hx => by
  obtain ⟨i, e⟩ := cells_int ho h x hx
  subst e
  exact .i
theorem card_fit {l : List Ins} (ho : ∀ i ∈ l, i.ok 1000) : Fit (cardD l) := (FitK.tup (k := 1) fun x hx => by
  simp at hx
  rcases hx with e | e <;> subst e
  · exact .i
  · exact cells_fit ho (Nat.le_refl _) : FitK 2 (cardD l)).fit (by decide)
end PV.T
set_option Elab.async false
set_option linter.all false
set_option autoImplicit false
set_option maxRecDepth 100000
set_option maxHeartbeats 4000000
namespace PV.T
open PySem PySem.Spec PyProof.Rows L2 PV
/-- what a pair is replaced by -/
def sh : Ins → Ins → Option (List Ins)
  | .swap n, .swap m => if n = m then some [] else none
  | .dup _, .pop => some []
  | .dup n, .swap m => if n = 1 ∧ m = 1 then some [.dup 1] else none
  | _, _ => none
/-- the leftmost pair replaced -/
def Rp1 : List Ins → Option (List Ins)
  | x :: y :: l => match sh x y with
    | some z => some (z ++ l)
    | none => (Rp1 (y :: l)).map (x :: ·)
  | _ => none
inductive Nf : List Ins → List Ins → Prop
  | done {l : List Ins} : Rp1 l = none → Nf l l
  | step {l l' r : List Ins} : Rp1 l = some l' → Nf l' r → Nf l r
theorem Nf.none {l r : List Ins} (h : Nf l r) (e : Rp1 l = none) : r = l := by
  cases h with
  | done _ => rfl
  | step e2 _ => rw [e] at e2; cases e2
theorem Nf.some {l l' r : List Ins} (h : Nf l r) (e : Rp1 l = some l') : Nf l' r := by
  cases h with
  | done e2 => rw [e] at e2; cases e2
  | step e2 h => rw [e] at e2; cases e2; exact h
theorem sh_len {x y : Ins} {z : List Ins} (h : sh x y = some z) : z.length ≤ 1 ∧ ∀ i ∈ z, i = x := by
  cases x <;> cases y <;> simp [sh] at h
  · subst h; simp
  · obtain ⟨⟨e, _⟩, e2⟩ := h; subst e2 e; simp
  · obtain ⟨_, e2⟩ := h; subst e2; simp
theorem rp_facts {M : Nat} : ∀ {l l' : List Ins}, Rp1 l = some l' → l'.length < l.length ∧ ((∀ i ∈ l, i.ok M) → ∀ i ∈ l', i.ok M)
  | [], _, h => by cases h
  | [_], _, h => by cases h
  | x :: y :: l, l', h => by
    unfold Rp1 at h
    cases q : sh x y with
    | some z =>
      rw [q] at h
      cases h
      obtain ⟨z1, z2⟩ := sh_len q
      refine ⟨by simp; omega, fun ho i hi => ?_⟩
      rcases List.mem_append.mp hi with hi | hi
      · rw [z2 i hi]; exact ho x (.head _)
      · exact ho i (.tail _ (.tail _ hi))
    | none =>
      rw [q] at h
      cases w : Rp1 (y :: l) with
      | none => rw [w] at h; cases h
      | some u =>
        rw [w] at h
        cases h
        obtain ⟨u1, u2⟩ := rp_facts (M := M) w
        refine ⟨by simp at u1 ⊢; omega, fun ho i hi => ?_⟩
        rcases List.mem_cons.mp hi with e | hi
        · rw [e]; exact ho x (.head _)
        · exact u2 (fun j hj => ho j (.tail _ hj)) i hi
theorem rp_at : ∀ {i : Nat} {l z : List Ins} (hi : i + 1 < l.length), (∀ j (hj : j + 1 < l.length), j < i → sh l[j] l[j + 1] = none) → sh l[i] l[i + 1] = some z → Rp1 l = some (l.take i ++ z ++ l.drop (i + 2))
  | 0, x :: y :: l, z, hi, _, h => by
    have h : sh x y = some z := h
    unfold Rp1
    rw [h]
    rfl
  | i + 1, x :: y :: l, z, hi, hn, h => by
    have h0 : sh x y = none := hn 0 (by simp) (by omega)
    unfold Rp1
    rw [h0]
    have ih := rp_at (i := i) (l := y :: l) (z := z) (by simpa using hi) (fun j hj hji => by
      have := hn (j + 1) (by simp at hj ⊢; omega) (by omega)
      simpa using this) (by simpa using h)
    simp only [ih]
    rfl
  | _, [], _, hi, _, _ => by simp at hi
  | _, [_], _, hi, _, _ => by simp at hi
theorem rp_none : ∀ {l : List Ins}, (∀ j (hj : j + 1 < l.length), sh l[j] l[j + 1] = none) → Rp1 l = none
  | [], _ => rfl
  | [_], _ => rfl
  | x :: y :: l, hn => by
    have h0 : sh x y = none := hn 0 (by simp)
    unfold Rp1
    rw [h0]
    have ih := rp_none (l := y :: l) fun j hj => by
      have := hn (j + 1) (by simp at hj ⊢; omega)
      simpa using this
    simp only [ih]
    rfl
/-! ### what the stack becomes -/
theorem app_dec {p m : List D} {x y : D} : app (p ++ [x] ++ m ++ [y]) (.swap (m.length + 1)) = p ++ [y] ++ m ++ [x] := by
  have l : (p ++ [x] ++ m ++ [y]).length = p.length + m.length + 2 := by simp; omega
  have t : (p ++ [x] ++ m ++ [y]).take p.length = p := by simp
  have g1 : (p ++ [x] ++ m ++ [y]).getD (p.length + m.length + 1) .none = y := by
    rw [List.getD_eq_getElem?_getD, List.getElem?_append_right (by simp; omega)]
    simp
    rw [show p.length + m.length + 1 - (p.length + (m.length + 1)) = 0 by omega]
    rfl
  have g2 : (p ++ [x] ++ m ++ [y]).getD p.length .none = x := by
    rw [List.getD_eq_getElem?_getD]
    simp
  have d : (p ++ [x] ++ m ++ [y]).drop (p.length + 1) = m ++ [y] := by
    rw [show p ++ [x] ++ m ++ [y] = (p ++ [x]) ++ (m ++ [y]) by simp]
    rw [List.drop_append, List.drop_of_length_le (by simp)]
    simp
  rw [app_swap, l, show p.length + m.length + 2 - 1 - (m.length + 1) = p.length by omega, show p.length + m.length + 2 - 1 = p.length + m.length + 1 by omega, show p.length + m.length + 2 - (m.length + 1) = p.length + 1 by omega, t, g1, g2, d, List.dropLast_concat]
theorem dec_of {c : List D} {n : Nat} (h : n + 1 ≤ c.length) (h1 : 1 ≤ n) : ∃ p m x y, c = p ++ [x] ++ m ++ [y] ∧ m.length + 1 = n := by
  have ne : c ≠ [] := fun z => by rw [z] at h; exact absurd h (by simp)
  have e1 := List.dropLast_concat_getLast ne
  have l1 : c.dropLast.length = c.length - 1 := List.length_dropLast
  have hk : c.length - 1 - n < c.dropLast.length := by omega
  refine ⟨c.dropLast.take (c.length - 1 - n), c.dropLast.drop (c.length - 1 - n + 1), c.dropLast[c.length - 1 - n], c.getLast ne, ?_, by rw [List.length_drop, l1]; omega⟩
  have e2 : c.dropLast.take (c.length - 1 - n) ++ [c.dropLast[c.length - 1 - n]] ++ c.dropLast.drop (c.length - 1 - n + 1) = c.dropLast := by
    rw [← List.take_succ_eq_append_getElem hk, List.take_append_drop]
  rw [e2, e1]
theorem sh_led {x y : Ins} {z : List Ins} {c w : List D} {m : Nat} (h : sh x y = some z) (ox : x.ok m) (e : led (some c) [x, y] = some w) : led (some c) z = some w := by
  have e : (aft c x).bind (fun c => aft c y) = some w := e
  cases q : aft c x with
  | none => rw [q] at e; cases e
  | some c1 =>
    rw [q] at e
    have e : aft c1 y = some w := e
    have n1 := (aft_len q ox).2
    have v1 : c1 = app c x := by unfold aft at q; rw [if_pos n1] at q; exact (Option.some.inj q).symm
    have v2 : w = app c1 y := by
      unfold aft at e
      split at e
      · exact (Option.some.inj e).symm
      · cases e
    cases x <;> cases y <;> simp [sh] at h
    · subst h
      rw [v2, v1, app_dup]
      show some c = some (List.dropLast _)
      rw [List.dropLast_concat]
    · obtain ⟨⟨e1, e2⟩, e3⟩ := h
      subst e1 e2 e3
      show aft c (.dup 1) = some w
      rw [q, v2]
      have n1 : 1 ≤ c.length := n1
      have ne : c ≠ [] := fun z => by rw [z] at n1; exact absurd n1 (by simp)
      have g : c.getD (c.length - 1) .none = c.getLast ne := by
        rw [List.getD_eq_getElem?_getD, List.getElem?_eq_getElem (by omega), List.getLast_eq_getElem]
        rfl
      have ec : c1 = c.dropLast ++ [c.getLast ne] ++ [] ++ [c.getLast ne] := by
        rw [v1, app_dup, g, List.dropLast_concat_getLast ne]
        simp
      have z := app_dec (p := c.dropLast) (m := []) (x := c.getLast ne) (y := c.getLast ne)
      rw [← ec] at z
      have z : app c1 (.swap 1) = c1 := z
      rw [z]
    · obtain ⟨e1, e3⟩ := h
      subst e1 e3
      obtain ⟨p, mm, a, b, ec, el⟩ := dec_of n1 ox.1
      rw [v2, v1]
      subst ec
      rw [← el, app_dec, app_dec]
      rfl
theorem rp_led {m : Nat} : ∀ {l l' : List Ins} {c w : List D}, (∀ i ∈ l, i.ok m) → Rp1 l = some l' → led (some c) l = some w → led (some c) l' = some w
  | [], _, _, _, _, h, _ => by cases h
  | [_], _, _, _, _, h, _ => by cases h
  | x :: y :: l, l', c, w, ho, h, e => by
    unfold Rp1 at h
    cases q : sh x y with
    | some z =>
      rw [q] at h
      cases h
      have e : led (led (some c) [x, y]) l = some w := e
      cases u : led (some c) [x, y] with
      | none => rw [u, led_none] at e; cases e
      | some c2 =>
        rw [u] at e
        rw [led_append, sh_led q (ho x (.head _)) u, e]
    | none =>
      rw [q] at h
      cases v : Rp1 (y :: l) with
      | none => rw [v] at h; cases h
      | some u =>
        rw [v] at h
        cases h
        have e : led (aft c x) (y :: l) = some w := e
        show led (aft c x) u = some w
        cases t : aft c x with
        | none => rw [t, led_none] at e; cases e
        | some c2 =>
          rw [t] at e
          exact rp_led (fun j hj => ho j (.tail _ hj)) v e
structure NfOk (l r : List Ins) : Prop where
  nf : Nf l r
  len : r.length ≤ l.length
  ok : ∀ M, (∀ i ∈ l, i.ok M) → ∀ i ∈ r, i.ok M
  led_ : ∀ M c w, (∀ i ∈ l, i.ok M) → led (some c) l = some w → led (some c) r = some w
theorem nf_ex : ∀ (n : Nat) (l : List Ins), l.length ≤ n → ∃ r, NfOk l r
  | 0, l, h => by
    have : l = [] := List.length_eq_zero_iff.mp (by omega)
    subst this
    exact ⟨[], .done rfl, Nat.le_refl _, fun _ h => h, fun _ _ _ _ h => h⟩
  | n + 1, l, h => by
    cases q : Rp1 l with
    | none => exact ⟨l, .done q, Nat.le_refl _, fun _ h => h, fun _ _ _ _ h => h⟩
    | some l' =>
      have f := fun M => rp_facts (M := M) q
      obtain ⟨r, r1, r2, r3, r4⟩ := nf_ex n l' (by have := (f 0).1; omega)
      exact ⟨r, .step q r1, by have := (f 0).1; omega, fun M ho => r3 M ((f M).2 ho), fun M c w ho e => r4 M c w ((f M).2 ho) (rp_led ho q e)⟩
/-! ### the numbers -/
def nums : List Ins → List Int
  | [] => []
  | .pop :: l => nums l
  | .dup n :: l => (n : Int) :: nums l
  | .swap n :: l => (n : Int) :: nums l
theorem nums_app : ∀ l l' : List Ins, nums (l ++ l') = nums l ++ nums l'
  | [], _ => rfl
  | .pop :: l, l' => nums_app l l'
  | .dup n :: l, l' => congrArg _ (nums_app l l')
  | .swap n :: l, l' => congrArg _ (nums_app l l')
theorem fold_max : ∀ (xs : List Int) (a : Int), (xs.foldl (fun a b => if b > a then b else a) a = a ∨ xs.foldl (fun a b => if b > a then b else a) a ∈ xs) ∧ a ≤ xs.foldl (fun a b => if b > a then b else a) a ∧ ∀ y ∈ xs, y ≤ xs.foldl (fun a b => if b > a then b else a) a
  | [], a => ⟨.inl rfl, Int.le_refl _, fun y hy => by cases hy⟩
  | x :: xs, a => by
    obtain ⟨h1, h2, h3⟩ := fold_max xs (if x > a then x else a)
    rw [List.foldl_cons]
    have hx : x ≤ (if x > a then x else a) ∧ a ≤ (if x > a then x else a) := by split <;> omega
    refine ⟨?_, Int.le_trans hx.2 h2, fun y hy => ?_⟩
    · rcases h1 with h1 | h1
      · rw [h1]
        by_cases c : x > a
        · rw [if_pos c]; exact .inr (.head _)
        · rw [if_neg c]; exact .inl rfl
      · exact .inr (.tail _ h1)
    · rcases List.mem_cons.mp hy with e | hy
      · rw [e]; exact Int.le_trans hx.1 h2
      · exact h3 y hy
theorem max_mem {x : Int} {xs : List Int} : maxI (x :: xs) ∈ x :: xs ∧ ∀ y ∈ x :: xs, y ≤ maxI (x :: xs) := by
  obtain ⟨h1, h2, h3⟩ := fold_max xs x
  refine ⟨?_, fun y hy => ?_⟩
  · rcases h1 with h1 | h1
    · exact List.mem_cons.mpr (.inl h1)
    · exact .tail _ h1
  · rcases List.mem_cons.mp hy with e | hy
    · rw [e]; exact h2
    · exact h3 y hy
theorem max_perm {x : Int} {xs ys : List Int} (h : ∀ y, y ∈ xs ↔ y ∈ ys) : maxI (x :: xs) = maxI (x :: ys) := by
  obtain ⟨a1, a2⟩ := max_mem (x := x) (xs := xs)
  obtain ⟨b1, b2⟩ := max_mem (x := x) (xs := ys)
  have m : ∀ y, y ∈ x :: xs ↔ y ∈ x :: ys := fun y => by simp [h y]
  exact Int.le_antisymm (b2 _ ((m _).mp a1)) (a2 _ ((m _).mpr b1))
def most (l : List Ins) : Int := maxI (2 :: nums l)
theorem most_swap {l l' : List Ins} : most (l ++ l') = most (l' ++ l) := by
  unfold most
  rw [nums_app, nums_app]
  exact max_perm fun y => by simp [or_comm]
theorem nums_le {M : Nat} : ∀ {l : List Ins}, (∀ i ∈ l, i.ok M) → ∀ y ∈ nums l, 1 ≤ y ∧ y ≤ M
  | [], _, y, h => by cases h
  | .pop :: l, ho, y, h => nums_le (fun j hj => ho j (.tail _ hj)) y h
  | .dup n :: l, ho, y, h => by
    have o := ho _ (.head _)
    rcases List.mem_cons.mp h with e | h
    · rw [e]; exact ⟨by have := o.1; omega, by have := o.2; omega⟩
    · exact nums_le (fun j hj => ho j (.tail _ hj)) y h
  | .swap n :: l, ho, y, h => by
    have o := ho _ (.head _)
    rcases List.mem_cons.mp h with e | h
    · rw [e]; exact ⟨by have := o.1; omega, by have := o.2; omega⟩
    · exact nums_le (fun j hj => ho j (.tail _ hj)) y h
theorem most_le {M : Nat} {l : List Ins} (ho : ∀ i ∈ l, i.ok M) : 2 ≤ most l ∧ most l ≤ max 2 M := by
  obtain ⟨a1, a2⟩ := max_mem (x := 2) (xs := nums l)
  refine ⟨a2 2 (.head _), ?_⟩
  rcases List.mem_cons.mp a1 with e | h
  · unfold most; rw [e]; omega
  · have := (nums_le ho _ h).2
    unfold most
    omega
end PV.T
set_option Elab.async false
set_option linter.all false
set_option autoImplicit false
set_option maxRecDepth 100000
set_option maxHeartbeats 4000000
namespace PV.T
open PySem PySem.Spec PyProof.Rows L2 PV
def kw : Ins → Str
  | .pop => "pop"
  | .dup _ => "dup"
  | .swap _ => "swap"
theorem ins_fit {i : Ins} : FitK 1 i.d := by
  cases i with
  | pop => exact FitK.tup (k := 0) fun x hx => by simp at hx; subst hx; exact .s (by decide +kernel)
  | dup n => exact FitK.tup (k := 0) fun x hx => by simp at hx; rcases hx with e | e <;> subst e <;> first | exact .i | exact .s (by decide +kernel)
  | swap n => exact FitK.tup (k := 0) fun x hx => by simp at hx; rcases hx with e | e <;> subst e <;> first | exact .i | exact .s (by decide +kernel)
theorem d_inj {i j : Ins} : i.d = j.d ↔ i = j := by
  constructor
  · intro h
    cases i <;> cases j <;> simp [Ins.d] at h <;> first | rfl | (subst h; rfl) | (exact congrArg _ (by omega))
  · intro h; rw [h]
theorem cmp_d {i j : Ins} : cmpV .eq i.d j.d = some (decide (i = j)) := by
  rw [cmp_fit (ins_fit.fit (by decide)) (ins_fit.fit (by decide))]
  congr 1
  exact decide_eq_decide.mpr d_inj
theorem cmp_pop {i : Ins} : cmpV .eq i.d (.tuple [.str "pop"]) = some (decide (i = .pop)) := cmp_d (j := .pop)
theorem cmp_dup1 {i : Ins} : cmpV .eq i.d (.tuple [.str "dup", .int 1]) = some (decide (i = .dup 1)) := cmp_d (j := .dup 1)
theorem cmp_swap1 {i : Ins} : cmpV .eq i.d (.tuple [.str "swap", .int 1]) = some (decide (i = .swap 1)) := cmp_d (j := .swap 1)
theorem idx_d0 {i : Ins} : idxV i.d (.int 0) = some (.str (kw i)) := by cases i <;> rfl
def shR (x y : Ins) : Out := match sh x y with
  | some z => .fr (.lst (tp z))
  | none => .val .none
theorem sh_iff {x y : Ins} {A B C : Prop} (hA : sh x y = some [] → A) (hB : sh x y = some [.dup 1] → x = .dup 1 → B) (hC : sh x y = none → C) :
    (¬ kw x = "swap" ∧ (¬ kw x = "dup" ∧ (¬ x = .dup 1 ∧ C ∨ x = .dup 1 ∧ (¬ y = .swap 1 ∧ C ∨ y = .swap 1 ∧ B)) ∨ kw x = "dup" ∧ (¬ y = .pop ∧ (¬ x = .dup 1 ∧ C ∨ x = .dup 1 ∧ (¬ y = .swap 1 ∧ C ∨ y = .swap 1 ∧ B)) ∨ y = .pop ∧ A))) ∨
      kw x = "swap" ∧ (¬ x = y ∧ (¬ kw x = "dup" ∧ (¬ x = .dup 1 ∧ C ∨ x = .dup 1 ∧ (¬ y = .swap 1 ∧ C ∨ y = .swap 1 ∧ B)) ∨ kw x = "dup" ∧ (¬ y = .pop ∧ (¬ x = .dup 1 ∧ C ∨ x = .dup 1 ∧ (¬ y = .swap 1 ∧ C ∨ y = .swap 1 ∧ B)) ∨ y = .pop ∧ A)) ∨ x = y ∧ A) := by
  cases x with
  | pop => cases y <;> simp [sh, kw] at * <;> assumption
  | dup n => cases y with
    | pop => simp [sh, kw] at *; assumption
    | dup m => simp [sh, kw] at *; by_cases e : n = 1 <;> simp [e] <;> assumption
    | swap m =>
      simp [sh, kw] at *
      by_cases e : n = 1
      · by_cases e2 : m = 1
        · simp [e, e2] at *; assumption
        · simp [e, e2] at *; assumption
      · simp [e] at *; assumption
  | swap n => cases y with
    | pop => simp [sh, kw] at *; assumption
    | dup m => simp [sh, kw] at *; assumption
    | swap m =>
      simp [sh, kw] at *
      by_cases e : n = m
      · simp [e] at *; assumption
      · simp [e] at *; assumption
section
variable {ρ : List Slot} {Z : Exn → List Slot → Prop} {Q : Rv → List Slot → Prop}
theorem c_shorter {x y : Ins} : wpM Z (callM S_shorter [.val x.d, .val y.d] [] []) ρ Q ↔ (shR x y).Q Z Q ρ := callO (o := shR x y) [x.d, y.d] [] [] fun Z Q h => by
  unfold S_shorter
  refine wp_def (ext := []) rfl ?_
  unfold b_shorter
  simp [N_shorter, idx_d0, cmp_d, cmp_pop, cmp_dup1, cmp_swap1, wp_lift, outArgs]
  unfold shR at h
  refine sh_iff (fun e => ?_) (fun e ex => ?_) fun e => ?_
  · rw [e] at h; exact h
  · rw [e] at h; subst ex; exact h
  · rw [e] at h; exact h
theorem at_tp {l : List Ins} {i : Int} {k : Nat} (e : i = (k : Int)) (h : k < l.length) : atI (tp l) i = some l[k].d := by
  subst e
  rw [at_get (k := k) rfl (by simpa [tp] using h)]
  simp [tp]
theorem add_tp {l l' : List Ins} (h : l.length + l'.length ≤ 16777216) : binV .add (.tuple (tp l)) (.tuple (tp l')) = some (.val (.tuple (tp (l ++ l')))) := by
  show (if fitsL ((tp l).length + (tp l').length) = true then some (Rv.val (.tuple (tp l ++ tp l'))) else none) = _
  rw [if_pos (fits_of (by simpa using h)), tp_app]
def oL (o : Option (List Ins)) : D := match o with
  | some r => .tuple (tp r)
  | none => .none
/-- ahead of a turn -/
def RpI (l : List Ins) (k : Nat) (ρ : List Slot) : Prop := (∀ j (hj : j + 1 < l.length), j < k → sh l[j] l[j + 1] = none) ∧ ∃ s1 s2 s3, isPin (some s1) = false ∧ isPin (some s2) = false ∧ isPin (some s3) = false ∧ ρ = [.val (.tuple (tp l)), s1, s2, s3]
theorem c_replaced {l : List Ins} (hl : l.length ≤ 10000) : wpM Z (callM S__law_replaced [.val (.tuple (tp l))] [] []) ρ Q ↔ Q (.val (oL (Rp1 l))) ρ := callV [.tuple (tp l)] fun Z Q h => by
  unfold S__law_replaced
  refine wp_def (ext := []) rfl ?_
  unfold b__law_replaced
  simp [N__law_replaced]
  rw [es_loop, ei_rg1]
  simp
  refine ⟨by unfold rgOk; simp; omega, rfl, ?_⟩
  have il : (rgD 0 ((l.length : Int) - 1)).length = l.length - 1 := by simp [rgD]
  refine for_inv (RpI l) ⟨fun j _ hj => by omega, .non, .non, .non, rfl, rfl, rfl, rfl⟩ (fun _ _ _ _ => rfl) ?_ ?_
  · rintro k d ρ2 hd ⟨hp, s1, s2, s3, p1, p2, p3, e⟩
    subst e
    obtain ⟨hk, ed⟩ := List.getElem?_eq_some_iff.mp hd
    rw [il] at hk
    have ed : d = .int (k : Int) := by
      rw [← ed]
      simp [rgD]
    subst ed
    have hk1 : k + 1 < l.length := by omega
    have a1 := at_tp (l := l) (i := (k : Int)) rfl (show k < l.length by omega)
    have a2 := at_tp (l := l) (i := (k : Int) + 1) (k := k + 1) (by omega) hk1
    have fA := fun z => rp_at (z := z) hk1 hp
    have fN : sh l[k] l[k + 1] = none → ∀ j (hj : j + 1 < l.length), j < k + 1 → sh l[j] l[j + 1] = none := fun e j hj hjk => by
      by_cases c : j = k
      · subst c; exact e
      · exact hp j hj (by omega)
    have et : tp (l.take (k + 1)) = tp (l.take k ++ [l[k]]) := by rw [List.take_succ_eq_append_getElem (by omega)]
    generalize l[k] = x at a1 fA fN et
    generalize l[k + 1] = y at a2 fA fN
    have t1 : cutD (tp l) none (some ((k : Int) + 1)) = tp (l.take k ++ [x]) := by
      rw [show (k : Int) + 1 = ((k + 1 : Nat) : Int) by omega, tp_to, et]
    have t2 : cutD (tp l) (some ((k : Int) + 2)) none = tp (l.drop (k + 2)) := tp_fromI (by omega)
    have fin : sh x y = none → RpI l (k + 1) [.val (.tuple (tp l)), .val (.int (k : Int)), .val x.d, .val y.d] := fun e => ⟨fN e, _, _, _, rfl, rfl, rfl, rfl⟩
    simp [p1, p2, p3, a1, a2, idx_d0, cmp_d, cmp_pop, cmp_dup1, cmp_swap1, wp_lift, outArgs, tp_to, t1, t2]
    refine sh_iff (fun e => ?_) (fun e ex => ?_) fin
    · rw [fA _ e] at h
      simp [oL] at h
      refine ⟨_, add_tp (by simp; omega), ?_⟩
      simp [outArgs]
      exact h
    · rw [fA _ e] at h
      subst ex
      simp [oL] at h
      refine ⟨_, add_tp (by simp; omega), ?_⟩
      simp [outArgs]
      exact h
  · rintro ρ2 ⟨hp, s1, s2, s3, p1, p2, p3, e⟩
    subst e
    have : Rp1 l = none := rp_none fun j hj => hp j hj (by rw [il]; omega)
    rw [this] at h
    simp [outArgs]
    exact h
theorem oL_is {o : Option (List Ins)} {ρ : List Slot} {Z : Exn → List Slot → Prop} {T : Bool → List Slot → Prop} : wpM Z (lift (cmpV .isnot (oL o) .none)) ρ T ↔ T o.isSome ρ := by
  cases o <;> exact wp_lift.trans ⟨fun ⟨_, e, q⟩ => by cases e; exact q, fun q => ⟨_, rfl, q⟩⟩
/-- ahead of a turn -/
def DuI (l r : List Ins) (k : Nat) (ρ : List Slot) : Prop := ∃ cur, Nf cur r ∧ k + cur.length ≤ l.length ∧ ρ = [.val (.tuple (tp cur)), .val (oL (Rp1 cur))]
theorem c_due {l r : List Ins} (hl : l.length ≤ 10000) (h : Nf l r) : wpM Z (callM S__law_due [.val (.tuple (tp l))] [] []) ρ Q ↔ Q (.val (.tuple (tp r))) ρ := callV (d := .tuple (tp r)) [.tuple (tp l)] fun Z Q hq => by
  unfold S__law_due
  refine wp_def (ext := []) rfl ?_
  unfold b__law_due
  simp [N__law_due, ev_call (fn__law_due__law_replaced)]
  rw [c_replaced hl]
  simp
  refine whl_inv (l.length + 1) (by omega) (DuI l r) ⟨l, h, by omega, rfl⟩ ?_
  rintro k ρ2 ⟨cur, hn, hk, e⟩
  subst e
  refine ⟨by omega, ?_⟩
  simp
  cases q : Rp1 cur with
  | none =>
    simp [oL, outArgs]
    rw [← hn.none q]
    exact hq
  | some c' =>
    have f := (rp_facts (M := 0) q).1
    simp [oL, ev_call (fn__law_due__law_replaced)]
    rw [c_replaced (by omega)]
    simp
    exact ⟨c', hn.some q, by omega, rfl⟩
/-- ahead of a turn -/
def TdI (ps : D) (l r : List Ins) (k : Nat) (ρ : List Slot) : Prop := ∃ cur i s3, Nf cur r ∧ (∀ j (hj : j + 1 < cur.length), j < i → sh cur[j] cur[j + 1] = none) ∧ cur.length ≤ l.length ∧ i ≤ cur.length ∧ k + (2 * cur.length - i) ≤ 2 * l.length ∧ isPin (some s3) = false ∧ ρ = [.val ps, .own none (.lst (tp cur)), .val (.int (i : Nat)), s3]
theorem tid_spec {ps : List Part} {r : List Ins} (hl : (flat ps).length ≤ 10000) (hn : ps.length ≤ 1000) (hr : Nf (flat ps) r) (h : Q (.val (.tuple (tp r))) ((ps.map Part.d).map .val)) : wpF Z S_tidied ((ps.map Part.d).map .val) [] Q := by
  unfold S_tidied
  refine wp_defS (ext := []) (ds := ps.map Part.d) (Nat.zero_le _) rfl rfl (by simp; omega) ?_
  unfold b_tidied
  simp [N_tidied, ev_call (fn_tidied_joined)]
  rw [c_joined (by omega) hn]
  simp
  refine whl_inv (2 * (flat ps).length + 1) (by omega) (TdI (.tuple (ps.map Part.d)) (flat ps) r) ⟨flat ps, 0, .non, hr, fun j _ hj => by omega, Nat.le_refl _, Nat.zero_le _, by omega, rfl, rfl⟩ ?_
  rintro k ρ2 ⟨cur, i, s3, hnf, hno, h1, h2, h3, p3, e⟩
  subst e
  refine ⟨by omega, ?_⟩
  simp
  refine ⟨fun lt => ?_, fun ge => ?_⟩
  · have hi : i + 1 < cur.length := by omega
    have a1 := at_tp (l := cur) (i := (i : Int)) rfl (show i < cur.length by omega)
    have a2 := at_tp (l := cur) (i := (i : Int) + 1) (k := i + 1) (by omega) hi
    simp [a1, a2, wp_lift, ev_call (fn_tidied_shorter)]
    rw [c_shorter]
    unfold shR
    have fA := fun z => rp_at (z := z) hi hno
    cases q : sh cur[i] cur[i + 1] with
    | none =>
      simp [p3]
      refine ⟨cur, i + 1, .val .none, hnf, fun j hj hji => ?_, h1, by omega, by omega, rfl, by simp⟩
      by_cases c : j = i
      · subst c; exact q
      · exact hno j hj (by omega)
    | some z =>
      obtain ⟨z1, _⟩ := sh_len q
      have hz := fA z q
      have fl := (rp_facts (M := 0) hz).1
      simp [p3]
      refine wp_setSl (xs := tp cur) (ys := tp z) rfl rfl ⟨by decide, by omega, by omega, by rw [tp_len]; omega, fits_of (by rw [tp_len, tp_len]; omega)⟩ ?_
      have e1 : (tp cur).take (i : Int).toNat ++ tp z ++ (tp cur).drop ((i : Int) + 2).toNat = tp (cur.take i ++ z ++ cur.drop (i + 2)) := by
        rw [show ((i : Int) + 2).toNat = i + 2 by omega, Int.toNat_natCast]
        simp [tp]
      rw [e1]
      simp
      refine ⟨cur.take i ++ z ++ cur.drop (i + 2), i - 1, .own none (.lst (tp z)), hnf.some hz, fun j hj hji => ?_, by omega, by simp; omega, by simp at fl ⊢; omega, rfl, ?_⟩
      · have g : ∀ t (ht : t < (cur.take i ++ z ++ cur.drop (i + 2)).length) (hti : t < i), (cur.take i ++ z ++ cur.drop (i + 2))[t] = cur[t] := fun t ht hti => by
          rw [List.getElem_append_left (by simp; omega), List.getElem_append_left (by simp; omega), List.getElem_take]
        rw [g j (by omega) (by omega), g (j + 1) hj (by omega)]
        exact hno j (by omega) (by omega)
      · have e2 : (if (1 : Int) < (i : Int) then (i : Int) - 1 else 0) = ((i - 1 : Nat) : Int) := by split <;> omega
        simp [e2]
  · have : Rp1 cur = none := rp_none fun j hj => hno j hj (by omega)
    rw [hnf.none this] at h
    simp [outArgs]
    simpa using h
theorem c_tid {ps : List Part} {r : List Ins} (hl : (flat ps).length ≤ 10000) (hn : ps.length ≤ 1000) (hr : Nf (flat ps) r) : wpM Z (callM S_tidied ((ps.map Part.d).map .val) [] []) ρ Q ↔ Q (.val (.tuple (tp r))) ρ := callV (ps.map Part.d) fun Z Q h => tid_spec hl hn hr h
end
end PV.T
set_option Elab.async false
set_option linter.all false
set_option autoImplicit false
set_option maxRecDepth 100000
set_option maxHeartbeats 4000000
namespace PV.T
open PySem PySem.Spec PyProof.Rows L2 PV
theorem nums_snoc {l : List Ins} {k : Nat} (h : k < l.length) : nums (l.take (k + 1)) = nums (l.take k) ++ nums [l[k]] := by
  rw [List.take_succ_eq_append_getElem h, nums_app]
theorem nums_len : ∀ l : List Ins, (nums l).length ≤ l.length
  | [] => Nat.le_refl _
  | .pop :: l => Nat.le_succ_of_le (nums_len l)
  | .dup n :: l => Nat.succ_le_succ (nums_len l)
  | .swap n :: l => Nat.succ_le_succ (nums_len l)
theorem intsOf_map : ∀ xs : List Int, intsOf (xs.map PyData.int) = some xs
  | [] => rfl
  | x :: xs => by simp [intsOf, intsOf_map xs]
theorem max_val {x : Int} {xs : List Int} : biV .max [.list (.int x :: xs.map PyData.int)] = some (.val (.int (maxI (x :: xs)))) := by
  have e : intsOf (.int x :: xs.map PyData.int) = some (x :: xs) := intsOf_map (x :: xs)
  simp only [biV, e]
section
variable {ρ : List Slot} {Z : Exn → List Slot → Prop} {Q : Rv → List Slot → Prop}
/-- ahead of a turn -/
def RnI (ps : List Part) (k : Nat) (acc : List D) (ρ : List Slot) : Prop := acc = (nums ((flat ps).take k)).map PyData.int ∧ ρ = [.val (.tuple (ps.map Part.d)), .non, .non, .non]
theorem reach_spec {ps : List Part} (hl : (flat ps).length ≤ 10000) (hn : ps.length ≤ 1000) (h : Q (.val (.int (most (flat ps)))) ((ps.map Part.d).map .val)) : wpF Z S_reach_needed ((ps.map Part.d).map .val) [] Q := by
  unfold S_reach_needed
  refine wp_defS (ext := []) (ds := ps.map Part.d) (Nat.zero_le _) rfl rfl (by simp; omega) ?_
  unfold b_reach_needed
  simp [N_reach_needed]
  refine lc2_inv ?_
  rw [ei_ex]
  simp [ev_call (fn_reach_needed_joined)]
  rw [c_joined (by omega) hn]
  refine ⟨_, _, rfl, rfl, ?_⟩
  refine ⟨rfl, rfl, RnI ps, ⟨rfl, rfl⟩, fun _ _ _ _ _ => rfl, ?_, ?_⟩
  · rintro k d acc ρ2 hd ⟨ea, e⟩
    subst ea e
    obtain ⟨hk, ed⟩ := tp_at hd
    subst ed
    have la := nums_len ((flat ps).take k)
    rw [List.length_take] at la
    have fin : ∀ ρ3, ρ3 = [.val (.tuple (ps.map Part.d)), .non, .non, .non] → RnI ps (k + 1) ((nums ((flat ps).take k)).map PyData.int ++ (nums [(flat ps)[k]]).map PyData.int) ρ3 := fun ρ3 e => ⟨by rw [nums_snoc hk, List.map_append], e⟩
    generalize (flat ps)[k] = i at fin
    have l1 : (nums [i]).length ≤ 1 := nums_len [i]
    refine (wp_ok0 (a := ()) (ρ' := [.val (.tuple (ps.map Part.d)), .non, .val (.str (kw i)), .val (.list ((nums [i]).map .int))]) (by cases i <;> rfl)).mpr ?_
    simp
    refine ⟨_, rfl, ?_⟩
    refine lcGo_inv (fun j acc ρ3 => acc = (nums ((flat ps).take k)).map PyData.int ++ ((nums [i]).take j).map PyData.int ∧ ρ3 = [.val (.tuple (ps.map Part.d)), .non, .val (.str (kw i)), .val (.list ((nums [i]).map .int))]) ⟨by simp, rfl⟩ (fun _ _ _ _ _ => rfl) ?_ ?_
    · rintro j d acc ρ3 hd2 ⟨ea, e⟩
      subst ea e
      obtain ⟨hj, ed⟩ := List.getElem?_eq_some_iff.mp hd2
      rw [List.getElem_map] at ed
      rw [List.length_map] at hj
      subst ed
      simp
      refine ⟨by rw [sizeLine_eq]; omega, ?_, rfl⟩
      rw [← List.map_take, ← List.map_take, List.take_succ_eq_append_getElem hj, List.map_append]
      rfl
    · rintro acc ρ3 ⟨ea, e⟩
      subst ea e
      rw [List.length_map, List.take_length]
      exact fin _ rfl
  · rintro acc ρ2 ⟨ea, e⟩
    subst ea e
    have lf : (tp (flat ps)).length = (flat ps).length := tp_len
    have ln := nums_len (flat ps)
    simp only [lf, List.take_length]
    simp
    refine ⟨by omega, ?_⟩
    rw [max_val, wp_lift]
    refine ⟨_, rfl, ?_⟩
    unfold most at h
    simp [outArgs]
    simpa using h
theorem c_reach {ps : List Part} (hl : (flat ps).length ≤ 10000) (hn : ps.length ≤ 1000) : wpM Z (callM S_reach_needed ((ps.map Part.d).map .val) [] []) ρ Q ↔ Q (.val (.int (most (flat ps)))) ρ := callV (ps.map Part.d) fun Z Q h => reach_spec hl hn h
theorem tp_to1 {l : List Ins} : cutD (tp l) none (some 1) = tp (l.take 1) := tp_to (n := 1)
theorem tp_to2 {l : List Ins} : cutD (tp l) none (some 2) = tp (l.take 2) := tp_to (n := 2)
theorem tp_from1 {l : List Ins} : cutD (tp l) (some 1) none = tp (l.drop 1) := tp_from (n := 1)
theorem tp_from2 {l : List Ins} : cutD (tp l) (some 2) none = tp (l.drop 2) := tp_from (n := 2)
theorem tup_tm {l : List Ins} (ho : ∀ i ∈ l, i.ok 1000) (hl : l.length ≤ 60) : Tm 2 660 (.tuple (tp l)) := Tm.tup (tp_mem ho) (by simp; omega)
theorem lst_tm {l : List Ins} (ho : ∀ i ∈ l, i.ok 1000) (hl : l.length ≤ 60) : Tm 2 660 (.list (tp l)) := Tm.lst (tp_mem ho) (by simp; omega)
def two (d : D) : Bool := match d with
  | .tuple [_, _] => true
  | _ => false
def sec (d : D) : D := match d with
  | .tuple [_, y] => y
  | _ => .none
theorem fil_nums : ∀ l : List Ins, ((tp l).filter two).map sec = (nums l).map PyData.int
  | [] => rfl
  | .pop :: l => fil_nums l
  | .dup n :: l => congrArg (PyData.int (n : Int) :: ·) (fil_nums l)
  | .swap n :: l => congrArg (PyData.int (n : Int) :: ·) (fil_nums l)
theorem c_right {l : List Ins} (hl : l.length ≤ 60) (ho : ∀ i ∈ l, i.ok 1000) : wpM Z (callM S__law_right [.val (.tuple (tp l))] [] []) ρ Q ↔ Q (.val (.bool true)) ρ := callV [.tuple (tp l)] fun Z Q h => by
  obtain ⟨r, hr⟩ := nf_ex l.length l (Nat.le_refl _)
  have hrl := hr.len
  have hro := hr.ok 1000 ho
  have hd := dp_lt ho
  have t1 := fun (Z : Exn → List Slot → Prop) (ρ : List Slot) (Q : Rv → List Slot → Prop) => c_tid (Z := Z) (ρ := ρ) (Q := Q) (ps := [.tup l]) (r := r) (by simp [flat, Part.is]; omega) (by simp) (by simpa [flat, Part.is] using hr.nf)
  have t2 := fun (Z : Exn → List Slot → Prop) (ρ : List Slot) (Q : Rv → List Slot → Prop) => c_tid (Z := Z) (ρ := ρ) (Q := Q) (ps := [.lst (l.take 2), .tup (l.drop 2)]) (r := r) (by simp [flat, Part.is]; omega) (by simp) (by simpa [flat, Part.is] using hr.nf)
  have t3 := fun (Z : Exn → List Slot → Prop) (ρ : List Slot) (Q : Rv → List Slot → Prop) => c_tid (Z := Z) (ρ := ρ) (Q := Q) (ps := [.lst l]) (r := r) (by simp [flat, Part.is]; omega) (by simp) (by simpa [flat, Part.is] using hr.nf)
  have m1 := fun (Z : Exn → List Slot → Prop) (ρ : List Slot) (Q : Rv → List Slot → Prop) => c_reach (Z := Z) (ρ := ρ) (Q := Q) (ps := [.tup l]) (by simp [flat, Part.is]; omega) (by simp)
  have m2 := fun (Z : Exn → List Slot → Prop) (ρ : List Slot) (Q : Rv → List Slot → Prop) => c_reach (Z := Z) (ρ := ρ) (Q := Q) (ps := [.lst l]) (by simp [flat, Part.is]; omega) (by simp)
  have m3 := fun (Z : Exn → List Slot → Prop) (ρ : List Slot) (Q : Rv → List Slot → Prop) => c_reach (Z := Z) (ρ := ρ) (Q := Q) (ps := [.tup (l.drop 1), .tup (l.take 1)]) (by simp [flat, Part.is]; omega) (by simp)
  have ef1 : flat [.tup l] = l := by simp [flat, Part.is]
  have ef2 : flat [.lst l] = l := by simp [flat, Part.is]
  have ef3 : flat [.tup (l.drop 1), .tup (l.take 1)] = l.drop 1 ++ l.take 1 := by simp [flat, Part.is]
  have em : most (l.drop 1 ++ l.take 1) = most l := by rw [most_swap, List.take_append_drop]
  rw [ef1] at m1
  rw [ef2] at m2
  rw [ef3, em] at m3
  simp only [List.map_cons, List.map_nil, Part.d, List.drop_one] at t1 t2 t3 m1 m2 m3
  have d1 := fun (Z : Exn → List Slot → Prop) (ρ : List Slot) (Q : Rv → List Slot → Prop) => c_due (Z := Z) (ρ := ρ) (Q := Q) (by omega) hr.nf
  have k1 := fun (Z : Exn → List Slot → Prop) (ρ : List Slot) (Q : Rv → List Slot → Prop) => c_lcard (Z := Z) (ρ := ρ) (Q := Q) (by omega) ho
  have ml := most_le ho
  have rm : Tm 0 1 (.int (most l)) := .i (by omega)
  have r1 : reprOk (.tuple (tp l)) = true := (tup_tm ho hl).repr (by omega) (by omega)
  have r2 : reprOk (.tuple (tp r)) = true := (tup_tm hro (by omega)).repr (by omega) (by omega)
  have r3 : reprOk (.list [.tuple (tp r), .tuple (tp r), .list (tp l)]) = true := (Tm.lst (k := 2) (n := 660) (m := 5000) (tm_cons (tup_tm hro (by omega)) (tm_cons (tup_tm hro (by omega)) (tm_cons (lst_tm ho hl) tm_nil))) (by simp)).repr (by omega) (by omega)
  have r4 : reprOk (.list [.int (most l), .list (tp l)]) = true := (Tm.lst (k := 2) (n := 660) (m := 5000) (tm_cons (rm.mono (by omega) (by omega)) (tm_cons (lst_tm ho hl) tm_nil)) (by simp)).repr (by omega) (by omega)
  have r5 : reprOk (.list [.int (most l), .int (most l)]) = true := (Tm.lst (k := 2) (n := 660) (m := 5000) (tm_cons (rm.mono (by omega) (by omega)) (tm_cons (rm.mono (by omega) (by omega)) tm_nil)) (by simp)).repr (by omega) (by omega)
  unfold S__law_right
  refine wp_def (ext := []) rfl ?_
  unfold b__law_right
  simp [N__law_right, ev_call (fn__law_right__law_due), ev_call (fn__law_right_tidied), ev_call (fn__law_right_reach_needed), r1, r2, r3, d1, t1, t2, t3, m1, m2, m3, tp_to1, tp_to2, tp_from1, tp_from2]
  refine lc_map (xs := tp l) two sec (ei_val rfl rfl) rfl rfl (fun d hd R hR => ?_) (fun d hd c R hR => ?_) (by simp; omega) ?_
  · obtain ⟨i, _, e⟩ := List.mem_map.mp hd
    subst e
    cases i <;> simp [Ins.d] <;> simpa [Ins.d, two] using hR
  · obtain ⟨i, _, e⟩ := List.mem_map.mp hd
    subst e
    cases i with
    | pop => cases c
    | dup n => simp [Ins.d]; exact hR
    | swap n => simp [Ins.d]; exact hR
  · rw [fil_nums]
    have ln := nums_len l
    have mv := max_val (x := 2) (xs := nums l)
    have mv : biV .max [.list (.int 2 :: (nums l).map PyData.int)] = some (.val (.int (most l))) := mv
    simp
    refine ⟨by omega, ?_⟩
    rw [mv, wp_lift]
    refine ⟨_, rfl, ?_⟩
    simp [m1, m2, m3, r4, r5, ev_call (fn__law_right_reach_needed), ev_call (fn__law_right__law_card), k1, tp_to1, tp_from1]
    unfold cardD
    simp [ev_call (fn__law_right__law_led)]
    rw [rg_gen]
    refine ⟨rg_ok (by omega), by rw [gen_len]; omega, ?_⟩
    rw [c_ledS (by rw [gen_len]; omega) hro, hr.led_ 1000 _ _ ho (led_cells ho (Nat.le_refl _))]
    simp [oT]
    have cf := cells_fit ho (Nat.le_refl (dp l))
    refine (eq_same cf.lay (Nat.le_trans cf.dep (by decide))).mpr ?_
    simp [r1, outArgs]
    exact h
end
end PV.T
set_option Elab.async false
set_option linter.all false
set_option autoImplicit false
set_option maxRecDepth 100000
set_option maxHeartbeats 4000000
namespace PV.T
open PySem PySem.Spec PyProof.Rows L2 PV
/-- ahead of a turn -/
def NeI (cells : List Int) (a0 m : Int) (M k : Nat) (ρ : List Slot) : Prop := ∃ a g l s3 s4 s5 s6, 0 ≤ a ∧ a ≤ a0 + 3 * (k : Int) ∧ 0 ≤ g ∧ l.length ≤ 7 + 2 * k ∧ (∀ i ∈ l, Ins.ok M i) ∧ isPin (some s3) = false ∧ isPin (some s4) = false ∧ isPin (some s5) = false ∧ isPin (some s6) = false ∧
  ρ = [.own (some 0) (.lst (Pen cells a g)), .val (.int m), .val (.tuple (tp l)), s3, s4, s5, s6]
section
variable {Z : Exn → List Slot → Prop} {cells : List Int} {a g m : Int} {Q : Rv → List Slot → Prop} {M : Nat}
theorem nested_spec (ha : 0 ≤ a) (ha2 : a ≤ 90000) (hg : 0 ≤ g) (hm : 1 ≤ m) (hm2 : m ≤ M) (hM : 2 ≤ M) (hM2 : M ≤ 1000)
    (h : ∀ l a' g', l.length ≤ 27 → (∀ i ∈ l, Ins.ok M i) → 0 ≤ a' → a' ≤ a + 60 → 0 ≤ g' → Q (.val (.tuple (tp l))) [.own (some 0) (.lst (Pen cells a' g')), .val (.int m)]) :
    wpF Z S__law_nested [.own (some 0) (.lst (Pen cells a g)), .val (.int m)] [] Q := by
  unfold S__law_nested
  refine wp_def (ext := []) rfl ?_
  unfold b__law_nested
  simp [N__law_nested]
  refine draw_call draw_ok rfl ha (by omega) hg (by omega) (by omega) fun w a1 g1 w0 w1 ha1 hb1 hg1 => ?_
  simp
  refine deeds_call (M := M) rfl ha1 (by omega) hg1 (by omega) (by omega) hm hm2 hM hM2 fun s a2 g2 ls hs ha2' hb2 hg2 => ?_
  simp
  rw [es_loop, ei_rg1]
  simp
  refine draw_call draw_ok rfl ha2' (by omega) hg2 (by omega) (by omega) fun n a3 g3 n0 n1 ha3 hb3 hg3 => ?_
  obtain ⟨N, eN⟩ : ∃ N : Nat, n = (N : Int) := ⟨n.toNat, by omega⟩
  subst eN
  simp
  refine ⟨rgOk_nat (by omega), rfl, ?_⟩
  refine for_inv (NeI cells a3 m M) ⟨a3, g3, s, .non, .non, .non, .non, ha3, by omega, hg3, by omega, hs, rfl, rfl, rfl, rfl, rfl⟩ (fun _ _ _ _ => rfl) ?_ ?_
  · rintro k d ρ hd ⟨a5, g5, l, s3, s4, s5, s6, h1, h2, h3, h4, h5, f3, f4, f5, f6, e⟩
    subst e
    have hk : k < N := by
      have := (List.getElem?_eq_some_iff.mp hd).1
      simpa using this
    simp [f3]
    refine draw_call draw_ok rfl h1 (by omega) h3 (by omega) (by omega) fun t a6 g6 t0 t1 ha6 hb6 hg6 => ?_
    simp [f4]
    refine draw_call draw_ok rfl ha6 (by omega) hg6 (by omega) (by omega) fun f a7 g7 f0 f1 ha7 hb7 hg7 => ?_
    simp [f5]
    refine draw_call draw_ok rfl ha7 (by omega) hg7 (by omega) (by omega) fun v a8 g8 v0 v1 ha8 hb8 hg8 => ?_
    obtain ⟨F, eF⟩ : ∃ F : Nat, 1 + f = (F : Int) := ⟨(1 + f).toNat, by omega⟩
    obtain ⟨K, eK⟩ : ∃ K : Nat, t = (K : Int) := ⟨t.toNat, by omega⟩
    rw [eF, eK]
    have hF : 1 ≤ F ∧ F ≤ M := by omega
    have fin : ∀ (p : List Ins) x y, p.length = 2 → (∀ i ∈ p, Ins.ok M i) → x = tp p → y = tp (l.take K) ++ x ++ tp (l.drop K) → NeI cells a3 m M (k + 1) [.own (some 0) (.lst (Pen cells a8 g8)), .val (.int m), .val (.tuple y), .val d, .val (.int (K : Int)), .val (.int (F : Int)), .val (.tuple x)] := fun p x y hp ho e1 e2 =>
      by
      subst e1 e2
      rw [tp_app, tp_app]
      exact ⟨a8, g8, l.take K ++ p ++ l.drop K, _, _, _, _, ha8, by omega, hg8, by simp; omega, ok_app (ok_app (ok_take h5) ho) (ok_drop h5), rfl, rfl, rfl, rfl, rfl⟩
    have : v = 0 ∨ v = 1 ∨ v = 2 := by omega
    rcases this with e | e | e <;> subst e <;> simp [f6, tp_to, tp_from]
    · refine ⟨by omega, by omega, ?_⟩
      exact fin [.swap F, .swap F] _ _ rfl (by simp [Ins.ok]; omega) rfl (by simp)
    · refine ⟨by omega, by omega, ?_⟩
      exact fin [.dup F, .pop] _ _ rfl (by simp [Ins.ok]; omega) rfl (by simp)
    · refine ⟨by omega, by omega, ?_⟩
      exact fin [.dup 1, .swap 1] _ _ rfl (by simp [Ins.ok]; omega) rfl (by simp)
  · rintro ρ ⟨a5, g5, l, s3, s4, s5, s6, h1, h2, h3, h4, h5, f3, f4, f5, f6, e⟩
    subst e
    simp at h2 h4
    simp [outArgs]
    exact h l a5 g5 (by omega) h5 h1 (by omega) h3
theorem nested_call {ρ : List Slot} {i : Nat} {pin : Option Nat} (hi : ρ[i]? = some (.own pin (.lst (Pen cells a g)))) (ha : 0 ≤ a) (ha2 : a ≤ 90000) (hg : 0 ≤ g) (hm : 1 ≤ m) (hm2 : m ≤ M) (hM : 2 ≤ M) (hM2 : M ≤ 1000)
    (h : ∀ l a' g', l.length ≤ 27 → (∀ i ∈ l, Ins.ok M i) → 0 ≤ a' → a' ≤ a + 60 → 0 ≤ g' → Q (.val (.tuple (tp l))) (ρ.set i (.own pin (.lst (Pen cells a' g'))))) : wpM Z (callM S__law_nested [.bor i, .val (.int m)] [] []) ρ Q := by
  refine wp_call (as := [.own (some 0) (.lst (Pen cells a g)), .val (.int m)]) (by simp [borNodup, hi]) (by simp [argsOf, argOf, hi]) (nested_spec ha ha2 hg hm hm2 hM hM2 fun l' a' g' h1 h2 h3 h4 h5 => ⟨_, by simp [backOf, hi], by simp, h l' a' g' h1 h2 h3 h4 h5⟩)
end
end PV.T
set_option Elab.async false
set_option linter.all false
set_option autoImplicit false
set_option maxRecDepth 100000
set_option maxHeartbeats 4000000
namespace PV.T
open PySem PySem.Spec PyProof.Rows L2 PV
def bB : Sts := (.cons (.ife (.not (.val (.call "_law_right" (.cons (.call "_law_nested" (.cons (.var 1) (.cons (.idx (.lst (.cons (.cst (.int 1)) (.cons (.cst (.int 3)) (.cons (.cst (.int 40)) .nil)))) (.call "_law_pick" (.cons (.var 1) (.cons (.cst (.int 3)) .nil)) .nil)) .nil)) .nil) .nil) .nil))) (.cons (.ret (.cst (.bool false)))
    .nil) .nil)
    .nil)
def bT : Sts := (.cons (.ife (.or (.cons (.cmp .ne (.call "tidied" .nil .nil) (.tup .nil)) (.cons (.cmp .ne (.call "reach_needed" .nil .nil) (.cst (.int 2))) (.cons (.cmp .ne (.call "tidied" (.cons (.tup (.cons (.cst (.str "pop")) .nil)) .nil) .nil) (.tup (.cons (.tup (.cons (.cst (.str "pop")) .nil)) .nil))) (.cons (.cmp .ne (.call "reach_needed" (.cons (.tup (.cons (.cst (.str "swap")) (.cons (.cst (.int 7)) .nil))) .nil) .nil) (.cst (.int 7))) .nil))))) (.cons (.ret (.cst (.bool false)))
    .nil) .nil)
    (.cons (.ret (.cmp .eq (.call "tidied" (.cons (.tup (.cons (.cst (.str "dup")) (.cons (.cst (.int 1)) .nil))) (.cons (.tup (.cons (.cst (.str "dup")) (.cons (.cst (.int 1)) .nil))) (.cons (.tup (.cons (.cst (.str "swap")) (.cons (.cst (.int 1)) .nil))) (.cons (.tup (.cons (.cst (.str "pop")) .nil)) (.cons (.tup (.cons (.cst (.str "pop")) .nil)) .nil))))) .nil) (.tup .nil)))
    .nil))
theorem law_eq : b_law = (.cons (.asg (.nm 1) (.call "_law_pen" (.cons (.var 0) .nil) .nil)) (.cons (.loop (.nm 2) (.rg1 (.cst (.int 8))) bB) bT)) := rfl
/-- ahead of a turn -/
def LI (ns : List Int) (c : Int) (j : Nat) (ρ : List Slot) : Prop := ∃ a g s2, 0 ≤ a ∧ a ≤ c * (j : Int) ∧ 0 ≤ g ∧ isPin (some s2) = false ∧
  ρ = [.val (.list (ns.map .int)), .own none (.lst (Pen ns a g)), s2]
abbrev LZ (ns : List Int) := endZ [.val (.list (ns.map .int))] 1 noX
abbrev LQ (ns : List Int) := endQ [.val (.list (ns.map .int))] 1 fun r _ => r = .val (.bool true)
theorem law_of (ns : List Int) (hl : ns.length ≤ 63) (c : Int)
    (hb : ∀ (T : List Slot → Prop) (j : Nat) (a g : Int), j < 8 → 0 ≤ a → a ≤ c * (j : Int) → 0 ≤ g → wpM (LZ ns) (exSs Φ16 bB) [.val (.list (ns.map .int)), .own none (.lst (Pen ns a g)), .val (.int (j : Int))] (loopQ (nxQ (LQ ns) T) (LI ns c (j + 1))))
    (ht : ∀ ρ, LI ns c 8 ρ → wpM (LZ ns) (exSs Φ16 bT) ρ (LQ ns)) : ∃ ρ, S_law [.val (.list (ns.map PyData.int))] [] = .ok (.val (.bool true)) ρ := by
  have key : wpF noX S_law [.val (.list (ns.map PyData.int))] [] (fun r _ => r = .val (.bool true)) := by
    unfold S_law
    refine wp_def (ext := []) rfl ?_
    rw [law_eq, es_cons]
    simp [N_law, c_pen hl]
    rw [es_loop, ei_rg1, ev_int]
    refine (pk_val (d := .int 8)).mpr ⟨8, rfl, rfl, rfl, ?_⟩
    refine for_inv (LI ns c) ⟨0, 0, .non, by omega, by omega, by omega, rfl, rfl⟩ (fun _ _ _ _ => rfl) ?_ ?_
    · rintro j d ρ hd ⟨a, g, s2, ha, ha2, hg, f2, e⟩
      subst e
      have hj : j < 8 := (List.getElem?_eq_some_iff.mp hd).1
      have ed : d = .int j := by
        have z : (rgD 0 8)[j]? = some d := hd
        rw [show (8 : Int) = ((8 : Nat) : Int) from rfl, rgD_nat] at z
        rw [List.getElem?_map, List.getElem?_range hj] at z
        exact (Option.some.inj z).symm
      subst ed
      simp [f2]
      exact hb _ j a g  hj ha ha2 hg 
    · exact ht
  unfold wpF at key
  cases q : S_law [.val (.list (ns.map PyData.int))] [] with
  | ok r ρ => rw [q] at key; exact ⟨ρ, by rw [key]⟩
  | exc e ρ => rw [q] at key; exact key.elim
  | stuck => rw [q] at key; exact key.elim
end PV.T
set_option Elab.async false
set_option linter.all false
set_option autoImplicit false
set_option maxRecDepth 100000
set_option maxHeartbeats 4000000
namespace PV.T
open PySem PySem.Spec PyProof.Rows L2 PV
theorem body_ok (ns : List Int) (T : List Slot → Prop) (j : Nat) (a g : Int) (hj : j < 8) (ha : 0 ≤ a) (ha2 : a ≤ 200 * (j : Int)) (hg : 0 ≤ g) :
    wpM (LZ ns) (exSs Φ16 bB) [.val (.list (ns.map .int)), .own none (.lst (Pen ns a g)), .val (.int (j : Int))] (loopQ (nxQ (LQ ns) T) (LI ns 200 (j + 1))) := by
  unfold bB
  simp
  refine draw_call draw_ok rfl ha (by omega) hg (by omega) (by omega) fun v a1 g1 x1 y1 ha1 hb1 hg1 => ?_
  obtain ⟨m, em, m1, m2⟩ : ∃ c : Int, atI [PyData.int 1, .int 3, .int 40] v = some (.int c) ∧ 1 ≤ c ∧ c ≤ 40 := by
    have : v = 0 ∨ v = 1 ∨ v = 2 := by omega
    rcases this with e | e | e <;> subst e
    · exact ⟨1, rfl, by omega, by omega⟩
    · exact ⟨3, rfl, by omega, by omega⟩
    · exact ⟨40, rfl, by omega, by omega⟩
  simp [em, wp_lift]
  refine nested_call (M := 1000) rfl ha1 (by omega) hg1 (by omega) (by omega) (by omega) (by omega) fun l a4 g4 ll ho ha4 hb4 hg4 => ?_
  rw [c_right (by omega) ho]
  simp
  exact ⟨a4, g4, _, ha4, by omega, hg4, rfl, rfl⟩
theorem tail_ok (ns : List Int) (ρ : List Slot) (h : LI ns 200 8 ρ) : wpM (LZ ns) (exSs Φ16 bT) ρ (LQ ns) := by
  obtain ⟨a, g, s2, ha, ha2, hg, f2, e⟩ := h
  subst e
  have t1 := fun (ρ : List Slot) (Q : Rv → List Slot → Prop) => c_tid (Z := LZ ns) (ρ := ρ) (Q := Q) (ps := []) (r := []) (by decide) (by decide) (.done rfl)
  have t2 := fun (ρ : List Slot) (Q : Rv → List Slot → Prop) => c_tid (Z := LZ ns) (ρ := ρ) (Q := Q) (ps := [.one .pop]) (r := [.pop]) (by decide) (by decide) (.done rfl)
  have t3 := fun (ρ : List Slot) (Q : Rv → List Slot → Prop) => c_tid (Z := LZ ns) (ρ := ρ) (Q := Q) (ps := [.one (.dup 1), .one (.dup 1), .one (.swap 1), .one .pop, .one .pop]) (r := []) (by decide) (by decide) (.step (l' := [.dup 1, .dup 1, .pop, .pop]) rfl (.step (l' := [.dup 1, .pop]) rfl (.step (l' := []) rfl (.done rfl))))
  have m1 := fun (ρ : List Slot) (Q : Rv → List Slot → Prop) => c_reach (Z := LZ ns) (ρ := ρ) (Q := Q) (ps := []) (by decide) (by decide)
  have m2 := fun (ρ : List Slot) (Q : Rv → List Slot → Prop) => c_reach (Z := LZ ns) (ρ := ρ) (Q := Q) (ps := [.one (.swap 7)]) (by decide) (by decide)
  have e1 : most (flat []) = 2 := rfl
  have e2 : most (flat [.one (.swap 7)]) = 7 := rfl
  rw [e1] at m1
  rw [e2] at m2
  have e3 : tp [] = [] := rfl
  have e4 : tp [.pop] = [.tuple [.str "pop"]] := rfl
  simp only [List.map_cons, List.map_nil, Part.d, Ins.d, e3, e4] at t1 t2 t3 m1 m2
  unfold bT
  simp [t1, m1, t2]
  refine (ne_same (by decide +kernel) (by decide)).mpr ⟨rfl, fun _ => ?_⟩
  refine (m2 _ _).mpr ?_
  simp
  refine (t3 _ _).mpr ?_
  simp [outArgs]
theorem law_true (ns : List Int) (hl : ns.length ≤ 63) : ∃ ρ, S_law [.val (.list (ns.map PyData.int))] [] = .ok (.val (.bool true)) ρ := law_of ns hl 200 (body_ok ns) (tail_ok ns)
end PV.T
open PySem PySem.W PyProof.Rows
set_option maxHeartbeats 0 in
theorem PySem.Challenge.cw_deepedge_k19_reaches_needed_and_tidied_holds : PySem.Challenge.rw_deepedge_k19_reaches_needed_and_tidied.Holds := by
  w_on; o_law; k_head; (case hw => w_witness2)
  k_fill
  refine PV.end_walk (l := PySem.Challenge.rw_deepedge_k19_reaches_needed_and_tidied) (n := 63) (k := 17) (S := fun _ => PV.T.S_law) rfl (by decide) rfl ⟨rfl, by decide, by decide⟩ (fun w h Y => PySem.W.kIn_of Y) ?F fun _ ns hl => PV.T.law_true ns hl
  case F =>
    intro w mg fa h KX G hmg
    refine' PV.T.all_mk KX G hmg ?a0 ?l0 ?e0 ?k0 ?a1 ?l1 ?e1 ?k1 ?a2 ?l2 ?e2 ?k2 ?a3 ?l3 ?e3 ?k3 ?a4 ?l4 ?e4 ?k4 ?a5 ?l5 ?e5 ?k5 ?a6 ?l6 ?e6 ?k6 ?a7 ?l7 ?e7 ?k7 ?a8 ?l8 ?e8 ?k8 ?a9 ?l9 ?e9 ?k9 ?a10 ?l10 ?e10 ?k10 ?a11 ?l11 ?e11 ?k11 ?a12 ?l12 ?e12 ?k12 ?a13 ?l13 ?e13 ?k13 ?a14 ?l14 ?e14 ?k14 ?a15 ?l15 ?e15 ?k15 ?a16 ?l16 ?e16 ?k16 ?c0 ?c1 ?c2 ?c3 ?z0 ?z1 ?z2 ?z3 ?z4 ?z5 ?z6 ?z7 ?z8 ?z9
    (case a0 => k_is); (case l0 => k_is); (case e0 => k_is); (case k0 => k_is); (case a1 => k_is); (case l1 => k_is); (case e1 => k_is); (case k1 => k_is); (case a2 => k_is); (case l2 => k_is); (case e2 => k_is); (case k2 => k_is); (case a3 => k_is); (case l3 => k_is); (case e3 => k_is); (case k3 => k_is); (case a4 => k_is); (case l4 => k_is); (case e4 => k_is); (case k4 => k_is); (case a5 => k_is); (case l5 => k_is); (case e5 => k_is); (case k5 => k_is); (case a6 => k_is); (case l6 => k_is); (case e6 => k_is); (case k6 => k_is); (case a7 => k_is); (case l7 => k_is); (case e7 => k_is); (case k7 => k_is); (case a8 => k_is); (case l8 => k_is); (case e8 => k_is); (case k8 => k_is); (case a9 => k_is); (case l9 => k_is); (case e9 => k_is); (case k9 => k_is); (case a10 => k_is); (case l10 => k_is); (case e10 => k_is); (case k10 => k_is); (case a11 => k_is); (case l11 => k_is); (case e11 => k_is); (case k11 => k_is); (case a12 => k_is); (case l12 => k_is); (case e12 => k_is); (case k12 => k_is); (case a13 => k_is); (case l13 => k_is); (case e13 => k_is); (case k13 => k_is); (case a14 => k_is); (case l14 => k_is); (case e14 => k_is); (case k14 => k_is); (case a15 => k_is); (case l15 => k_is); (case e15 => k_is); (case k15 => k_is); (case a16 => k_is); (case l16 => k_is); (case e16 => k_is); (case k16 => k_is); (case c0 => k_is); (case c1 => k_is); (case c2 => k_is); (case c3 => k_is); (case z0 => k_is); (case z1 => k_is); (case z2 => k_is); (case z3 => k_is); (case z4 => k_is); (case z5 => k_is); (case z6 => k_is); (case z7 => k_is); (case z8 => k_is); (case z9 => k_is)

